import PyProof.Rows.All
import Wide.All
import OpenK.AllK
import Wide.FinOn
import HandS.ForMost
import HandS.Exc
import HandS.TryOnly
import HandS.ExcOwn
import HandS.WordsExc
import HandS.Defaults
import HandS.HeadHook1
import HandS.TupAny
import HandS.Style
import HandS.Conv
import HandS.Zip
import HandS.IsInst
import HandS.Flow
import HandS.DictTup
import HandS.TryMany
import HandS.Lambda
import HandS.DictComp
import HandS.Strs
import HandS.SetKeys
import HandS.SortKw
import HandS.ExcInit
import HandS.Nested
import HandS.HeadHook4
import KE.KeyNested
import HandS.Walk
import HandS.CallSlots
import PyProof.P3In
import PyProof.P3Eq
import KE.SortData
import HandS.HeadEnd
import KE.GoesMore
import HandS.Text
import HandS.Codes
import HandS.SetFor
import HandS.ExcIs
import HandS.ExcField
import HandS.RaiseMore
import HandS.EndTab
import HandS.HeadWalk
import PySem.Challenge.RW_grovehouse_k07_runs_of_machines
import KE.KStateDown
import Lean
import HandS.Base
import HandS.Call
import HandS.Ends
import HandS.More
import HandS.Words
import HandS.Head0
import HandS.Head1
import HandS.Head2
import HandS.HeadHook2
import HandS.HeadHook3
set_option Elab.async false
set_option linter.all false
set_option maxRecDepth 100000
set_option maxHeartbeats 1000000
/-! Values without a heap for tuples and for lists that nobody writes; a small heap of own objects; how both lie in the abstract heap of the hand layer. -/
set_option autoImplicit false
namespace GH
open PySem PySem.Spec PyProof.Rows L2

/-- the world, for the hashes of keys -/
class TheWorld where
  w : World
variable [TheWorld]
def sOf (x : List Nat) : Str := ⟨x.toArray⟩
theorem sOf_inj {x y : List Nat} (h : sOf x = sOf y) : x = y := by
  have := congrArg (fun s : Str => s.cps.toList) h
  simpa [sOf] using this
theorem sOf_len (x : List Nat) : (sOf x).length = x.length := by simp [sOf, Str.length]

/-- a value: tuples and unwritten lists as they are, an object of the small heap by its place -/
inductive Val where
  | non | bl (b : Bool) | int (i : Int) | str (s : List Nat)
  | tup (l : List Val) | lst (l : List Val) | fz (l : List Val) | ref (a : Nat)
  deriving Inhabited

/-- an object that may be written -/
inductive Ob where
  | lst (l : List Val)
  | dic (l : List (Val × Val))
  | ins (c : List Nat) (fs : List (List Nat × Val))
  /-- the table of the code objects that a def's code made -/
  | tbl (q : List Nat)
  /-- a dict whose keys are tuples of any depth -/
  | dn (l : List (Val × Val))
  deriving Inhabited
abbrev Hv := List Ob
abbrev Loc := List (Option Val)

/-- the ghost: where the small heap's objects lie; what else is being written -/
structure Gh where
  m : List Addr
  r : List Addr
def Gh.own (g : Gh) (a : Addr) : Prop := a ∈ g.m ∨ a ∈ g.r

/-- a list that nobody writes at all: the script, a list at the top -/
def FzL (K : PySem.W.Frag) (H : Hp) (a : Addr) (xs : List V) : Prop := (∃ o, H a = some (.frz o (.lst xs))) ∨
  ∃ (o : Obj) (its : Array Value) (n : Nat), K.lookup a = some o ∧ o.cls = .type "list" ∧ o.dict = none ∧ o.data = .seq its n ∧ its.size ≤ sizeLine ∧ Vals xs its.toList
theorem FzL.imp {K : PySem.W.Frag} {H H' : Hp} {a : Addr} {xs : List V} (s : FzL K H a xs) (f : ∀ o, H a = some (.frz o (.lst xs)) → H' a = some (.frz o (.lst xs))) : FzL K H' a xs := s.elim (fun ⟨o, e⟩ => .inl ⟨o, f o e⟩) .inr
theorem FzL.sq {K : PySem.W.Frag} {H : Hp} {a : Addr} {xs : List V} (s : FzL K H a xs) : SqL K H a xs := s.elim (fun ⟨o, e⟩ => .inl (.inr ⟨o, e⟩)) .inr
mutual
def VR (K : PySem.W.Frag) (g : Gh) (H : Hp) : Val → V → Prop
  | .non, x => x = .non
  | .bl b, x => x = .bl b
  | .int i, x => x = .int i
  | .str s, x => x = .str (sOf s)
  | .tup l, x => ∃ a xs, x = .ref a ∧ SqT K H a xs ∧ VRs K g H l xs
  | .lst l, x => ∃ a xs, x = .ref a ∧ ¬ g.own a ∧ H a = some (.lst xs) ∧ VRs K g H l xs
  | .fz l, x => ∃ a xs, x = .ref a ∧ FzL K H a xs ∧ VRs K g H l xs
  | .ref i, x => ∃ a, x = .ref a ∧ g.m[i]? = some a
def VRs (K : PySem.W.Frag) (g : Gh) (H : Hp) : List Val → List V → Prop
  | [], xs => xs = []
  | v :: l, xs => ∃ x r, xs = x :: r ∧ VR K g H v x ∧ VRs K g H l r
end

def keyOf : Val → Option Key
  | .int i => some (.inl i)
  | .str s => some (.inr (sOf s))
  | _ => none
/-- a class by its name -/
abbrev clsA (K : PySem.W.Frag) (c : List Nat) : Addr := He.ga K (sOf c)
/-- the fields, by name -/
def FR (K : PySem.W.Frag) (g : Gh) (H : Hp) (fs : List (List Nat × Val)) (gs : List (Str × V)) : Prop :=
  gs.map (·.1) = fs.map (fun p => sOf p.1) ∧ VRs K g H (fs.map (·.2)) (gs.map (·.2))
def DR (K : PySem.W.Frag) (g : Gh) (H : Hp) (l : List (Val × Val)) (ks : List (Key × V)) : Prop :=
  l.map (fun p => keyOf p.1) = ks.map (fun q => some q.1) ∧ VRs K g H (l.map (·.2)) (ks.map (·.2))
/-- a table: its codes bear the name q and are nobody's -/
def qualL (q : List Nat) : Str := sOf q ++ ".<locals>." ++ "<lambda>"
abbrev tabA (K : PySem.W.Frag) (q : List Nat) : Addr := (He.cT K (sOf q, none)).2
def TabG (g : Gh) (H : Hp) (P : Addr) (q : Str) : Prop := ∃ ps : Array Value, H P = some (.tbl ps) ∧ TriplesOk ps.toList ∧ ∀ (pos : Pos) (cv : Value), codeAmong pos ps.toList = some cv → ∃ c, cv = .ref c ∧ H c = some (LamX.CodeO c q) ∧ ¬ g.own c
mutual
/-- a value as a key -/
def keyN : Val → Option NestedKey
  | .non => some .none
  | .bl b => some (.num (if b then 1 else 0))
  | .int i => some (.num i)
  | .str s => some (.text (sOf s))
  | .tup l => (keysN l).map .tup
  | _ => none
def keysN : List Val → Option (List NestedKey)
  | [] => some []
  | v :: l => (keyN v).bind fun k => (keysN l).map fun ks => k :: ks
end
/-- a key, where its tuple lies, the value -/
abbrev NE := NestedKey × Addr × Value
def entN (x : NE) : DictEntry := ⟨x.1.hash TheWorld.w, .ref x.2.1, x.2.2⟩
/-- the dict at a has just these entries -/
def DN (a : Addr) (xs : List NE) : HO := .ext fun h => ∃ o es ep, h.get? a = some o ∧ o.ExactDict ∧ o.data = .dict es ep ∧ es.toList = xs.map entN
structure NP (a : Addr) (l : List (Val × Val)) (xs : List NE) (ys : List V) : Prop where
  sys : (a == sysModules) = false
  sz : l.length ≤ sizeLine
  ks : l.map (fun p => keyN p.1) = xs.map fun x => some x.1
  dp : ∀ x ∈ xs, x.1.depth ≤ 8
  nd : (xs.map (·.1)).Nodup
  vs : Vals ys (xs.map (·.2.2))
def OR (K : PySem.W.Frag) (g : Gh) (H : Hp) (a : Addr) : Ob → Prop
  | .lst l => ∃ xs, H a = some (.lst xs) ∧ VRs K g H l xs
  | .dic l => ∃ ks, H a = some (.dK ks) ∧ DR K g H l ks
  | .ins c fs => ∃ dx gs, H a = some (.ins (clsA K c) dx gs) ∧ FR K g H fs gs
  | .tbl q => a = tabA K q ∧ TabG g H a (qualL q)
  | .dn l => ∃ xs ys, H a = some (DN a xs) ∧ NP a l xs ys ∧ VRs K g H (l.map (·.1)) (xs.map fun x => V.ref x.2.1) ∧ VRs K g H (l.map (·.2)) ys
/-- what may be written, by ours -/
def MutX (a : Addr) : HO → Prop
  | .lst _ | .dK _ | .dT _ | .set _ _ | .ins _ _ _ => True
  | .ext φ => ∃ xs, HO.ext φ = DN a xs
  | _ => False
structure HR (K : PySem.W.Frag) (g : Gh) (H : Hp) (h : Hv) : Prop where
  len : g.m.length = h.length
  nd : g.m.Nodup
  dis : ∀ a ∈ g.m, a ∉ g.r
  al : ∀ a ∈ g.r, ∃ o, H a = some o ∧ MutX a o
  obj : ∀ (i : Nat) o a, h[i]? = some o → g.m[i]? = some a → OR K g H a o
structure SR (K : PySem.W.Frag) (g : Gh) (H : Hp) (l : Loc) (σ : L2.St) : Prop where
  len : l.length = σ.length
  at_ : ∀ (i : Nat) v, l[i]? = some (some v) → ∃ x, σ[i]? = some (some x) ∧ VR K g H v x
/-- nothing lies there, or a table -/
def Fre (H : Hp) (b : Addr) : Prop := ∀ o, H b = some o → ∃ ps, o = .tbl ps
theorem fre_none {H : Hp} {b : Addr} (e : H b = none) : Fre H b := fun o q => by rw [e] at q; cases q
structure ExtS (g : Gh) (H : Hp) (g' : Gh) (H' : Hp) : Prop where
  m : ∃ t, g'.m = g.m ++ t ∧ ∀ b ∈ t, Fre H b
  r : ∃ u, g'.r = u ++ g.r ∧ ∀ b ∈ u, Fre H b
  keepN : ∀ b o, H b = some o → (∀ ps, o ≠ .tbl ps) → ¬ g.own b → H' b = some o
structure Ext (g : Gh) (H : Hp) (g' : Gh) (H' : Hp) : Prop where
  m : ∃ t, g'.m = g.m ++ t ∧ ∀ b ∈ t, Fre H b
  r : g'.r = g.r
  keepN : ∀ b o, H b = some o → (∀ ps, o ≠ .tbl ps) → b ∉ g.m → H' b = some o
  there : ∀ b o, H b = some o → (∀ ps, o ≠ .tbl ps) → ∃ o', H' b = some o' ∧ ∀ ps, o' ≠ .tbl ps

section
variable {K : PySem.W.Frag} {g g' g'' : Gh} {H H' H'' : Hp} {h : Hv}
theorem Ext.keep (E : Ext g H g' H') (b : Addr) (o : HO) (e : H b = some o) (hn : b ∉ g.m) (nt : ∀ ps, o ≠ .tbl ps := by intro ps z; cases z) : H' b = some o := E.keepN b o e nt hn
theorem ExtS.keep (E : ExtS g H g' H') (b : Addr) (o : HO) (e : H b = some o) (hn : ¬ g.own b) (nt : ∀ ps, o ≠ .tbl ps := by intro ps z; cases z) : H' b = some o := E.keepN b o e nt hn
theorem Ext.refl : Ext g H g H := ⟨⟨[], by simp, by simp⟩, rfl, fun _ _ e _ _ => e, fun b o e n => ⟨o, e, n⟩⟩
theorem Ext.trans (a : Ext g H g' H') (b : Ext g' H' g'' H'') : Ext g H g'' H'' := by
  obtain ⟨t, e1, n1⟩ := a.m
  obtain ⟨u, e2, n2⟩ := b.m
  have key : ∀ c ∈ u, Fre H c := fun c hc o q => by
    by_cases z : ∃ ps, o = .tbl ps
    · exact z
    · obtain ⟨o', e', n'⟩ := a.there c o q fun ps z' => z ⟨ps, z'⟩
      obtain ⟨ps, z'⟩ := n2 c hc o' e'
      exact (n' ps z').elim
  refine ⟨⟨t ++ u, by rw [e2, e1, List.append_assoc], fun c hc => ?_⟩, b.r.trans a.r, fun c o e nt hn => ?_, fun c o e nt => ?_⟩
  · rcases List.mem_append.mp hc with hc | hc
    · exact n1 c hc
    · exact key c hc
  · refine b.keepN c o (a.keepN c o e nt hn) nt ?_
    rw [e1]
    intro hc
    rcases List.mem_append.mp hc with hc | hc
    · exact hn hc
    · obtain ⟨ps, z⟩ := n1 c hc o e
      exact nt ps z
  · obtain ⟨o', e', n'⟩ := a.there c o e nt
    exact b.there c o' e' n'
theorem HR.own_there (R : HR K g H h) {a : Addr} (ha : g.own a) : ∃ o, H a = some o := by
  rcases ha with ha | ha
  · obtain ⟨i, hi, e⟩ := List.getElem_of_mem ha
    have hi' : i < h.length := by rw [← R.len]; exact hi
    have q := R.obj i h[i] a (by simp [hi']) (by rw [← e]; simp [hi])
    cases ho : h[i] with
    | lst l => rw [ho] at q; obtain ⟨_, e, _⟩ := q; exact ⟨_, e⟩
    | dic l => rw [ho] at q; obtain ⟨_, e, _⟩ := q; exact ⟨_, e⟩
    | ins c f => rw [ho] at q; obtain ⟨_, _, e, _⟩ := q; exact ⟨_, e⟩
    | tbl t => rw [ho] at q; obtain ⟨_, _, e, _⟩ := q; exact ⟨_, e⟩
    | dn l => rw [ho] at q; obtain ⟨_, _, e, _⟩ := q; exact ⟨_, e⟩
  · obtain ⟨o, e, _⟩ := R.al a ha
    exact ⟨_, e⟩
theorem HR.fresh (R : HR K g H h) {a : Addr} (ha : H a = none) : ¬ g.own a := fun q => by
  obtain ⟨o, e⟩ := R.own_there q
  rw [ha] at e; cases e
/-- what is owned is no tuple and not locked -/
theorem HR.kind (R : HR K g H h) {a : Addr} (ha : a ∈ g.m) : (∃ xs, H a = some (.lst xs)) ∨ (∃ ks, H a = some (.dK ks)) ∨ (∃ C dx gs, H a = some (.ins C dx gs)) ∨ (∃ ps, H a = some (.tbl ps)) ∨ ∃ xs, H a = some (DN a xs) := by
  obtain ⟨i, hi, e⟩ := List.getElem_of_mem ha
  have hi' : i < h.length := by rw [← R.len]; exact hi
  have q := R.obj i h[i] a (by simp [hi']) (by rw [← e]; simp [hi])
  cases ho : h[i] with
  | lst l => rw [ho] at q; obtain ⟨_, e, _⟩ := q; exact .inl ⟨_, e⟩
  | dic l => rw [ho] at q; obtain ⟨_, e, _⟩ := q; exact .inr (.inl ⟨_, e⟩)
  | ins c f => rw [ho] at q; obtain ⟨_, _, e, _⟩ := q; exact .inr (.inr (.inl ⟨_, _, _, e⟩))
  | tbl t => rw [ho] at q; obtain ⟨_, _, e, _⟩ := q; exact .inr (.inr (.inr (.inl ⟨_, e⟩)))
  | dn l => rw [ho] at q; obtain ⟨_, _, e, _⟩ := q; exact .inr (.inr (.inr (.inr ⟨_, e⟩)))
theorem HR.not_tup (R : HR K g H h) {a : Addr} {xs : List V} (e : Rd H a (.tup xs)) : a ∉ g.m := fun ha => by
  rcases R.kind ha with ⟨_, q⟩ | ⟨_, q⟩ | ⟨_, _, _, q⟩ | ⟨_, q⟩ | ⟨_, q⟩ <;> rcases e with e | ⟨_, e⟩ <;> rw [q] at e <;> cases e
theorem Ext.s (E : Ext g H g' H') : ExtS g H g' H' := ⟨E.m, ⟨[], by rw [E.r]; rfl, by simp⟩, fun b o e nt hn => E.keepN b o e nt fun z => hn (.inl z)⟩
theorem HR.not_own (R : HR K g H h) {a : Addr} {o : HO} (e : H a = some o) (n : ¬ MutX a o) (nt : ∀ ps, o ≠ .tbl ps := by intro ps z; cases z) : ¬ g.own a := fun ha => by
  rcases ha with ha | ha
  · rcases R.kind ha with ⟨_, q⟩ | ⟨_, q⟩ | ⟨_, _, _, q⟩ | ⟨_, q⟩ | ⟨_, q⟩
    · rw [q] at e; cases e; exact n trivial
    · rw [q] at e; cases e; exact n trivial
    · rw [q] at e; cases e; exact n trivial
    · rw [q] at e; cases e; exact nt _ rfl
    · rw [q] at e; cases e; exact n ⟨_, rfl⟩
  · obtain ⟨o', e', m⟩ := R.al a ha
    rw [e] at e'; cases e'
    exact n m
theorem HR.tup_own (R : HR K g H h) {a : Addr} {xs : List V} (e : Rd H a (.tup xs)) : ¬ g.own a := by
  rcases e with e | ⟨_, e⟩
  · exact R.not_own e (fun z => z)
  · exact R.not_own e (fun z => z)
theorem ExtS.rd (E : ExtS g H g' H') {a : Addr} {u : HO} (ha : ¬ g.own a) (e : Rd H a u) (nt : ∀ ps, u ≠ .tbl ps := by intro ps z; cases z) : Rd H' a u := by
  rcases e with e | ⟨o, e⟩
  · exact .inl (E.keep _ _ e ha nt)
  · exact .inr ⟨o, E.keep _ _ e ha⟩
theorem ExtS.nown (E : ExtS g H g' H') {a : Addr} {o : HO} (ha : ¬ g.own a) (e : H a = some o) (nt : ∀ ps, o ≠ .tbl ps := by intro ps z; cases z) : ¬ g'.own a := fun q => by
  obtain ⟨t, em, n⟩ := E.m
  obtain ⟨u, er, n2⟩ := E.r
  rcases q with q | q
  · rw [em] at q
    rcases List.mem_append.mp q with q | q
    · exact ha (.inl q)
    · obtain ⟨ps, z⟩ := n a q o e; exact nt ps z
  · rw [er] at q
    rcases List.mem_append.mp q with q | q
    · obtain ⟨ps, z⟩ := n2 a q o e; exact nt ps z
    · exact ha (.inr q)
theorem Ext.rd (E : Ext g H g' H') {a : Addr} {u : HO} (ha : a ∉ g.m) (e : Rd H a u) (nt : ∀ ps, u ≠ .tbl ps := by intro ps z; cases z) : Rd H' a u := by
  rcases e with e | ⟨o, e⟩
  · exact .inl (E.keep _ _ e ha nt)
  · exact .inr ⟨o, E.keep _ _ e ha⟩
theorem Ext.nown (E : Ext g H g' H') {a : Addr} {o : HO} (ha : ¬ g.own a) (e : H a = some o) (nt : ∀ ps, o ≠ .tbl ps := by intro ps z; cases z) : ¬ g'.own a := fun q => by
  obtain ⟨t, em, n⟩ := E.m
  rcases q with q | q
  · rw [em] at q
    rcases List.mem_append.mp q with q | q
    · exact ha (.inl q)
    · obtain ⟨ps, z⟩ := n a q o e; exact nt ps z
  · rw [E.r] at q
    exact ha (.inr q)
theorem Rd.some {a : Addr} {u : HO} (e : Rd H a u) : ∃ o, H a = some o := by
  rcases e with e | ⟨o, e⟩
  · exact ⟨_, e⟩
  · exact ⟨_, e⟩
/-- the codes stay, the table stays -/
theorem TabG.stay {g g' : Gh} {H H' : Hp} {P : Addr} {q : Str} (t : TabG g H P q) (hP : ∀ ps, H P = some (.tbl ps) → H' P = some (.tbl ps)) (hc : ∀ c (o : HO), H c = some o → (∀ ps, o ≠ .tbl ps) → ¬ g.own c → H' c = some o ∧ ¬ g'.own c) : TabG g' H' P q := by
  obtain ⟨ps, e, t1, t2⟩ := t
  refine ⟨ps, hP ps e, t1, fun pos cv z => ?_⟩
  obtain ⟨c, e1, e2, e3⟩ := t2 pos cv z
  obtain ⟨a, b⟩ := hc c _ e2 (fun ps => LamX.codeO_ne ps) e3
  exact ⟨c, e1, a, b⟩
mutual
theorem VR.extS (R : HR K g H h) (E : ExtS g H g' H') : ∀ {v : Val} {x : V}, VR K g H v x → VR K g' H' v x
  | .non, x, q => by simpa only [VR] using q
  | .bl b, x, q => by simpa only [VR] using q
  | .int i, x, q => by simpa only [VR] using q
  | .str s, x, q => by simpa only [VR] using q
  | .tup l, x, q => by
    simp only [VR] at q ⊢
    obtain ⟨a, xs, e, s, r⟩ := q
    refine ⟨a, xs, e, ?_, VRs.extS R E r⟩
    rcases s with s | s
    · exact .inl (E.rd (R.tup_own s) s)
    · exact .inr s
  | .lst l, x, q => by
    simp only [VR] at q ⊢
    obtain ⟨a, xs, e, n, s, r⟩ := q
    exact ⟨a, xs, e, E.nown n s, E.keep _ _ s n, VRs.extS R E r⟩
  | .fz l, x, q => by
    simp only [VR] at q ⊢
    obtain ⟨a, xs, e, s, r⟩ := q
    refine ⟨a, xs, e, s.imp fun o s => E.keep _ _ s (R.not_own s fun z => z), VRs.extS R E r⟩
  | .ref i, x, q => by
    simp only [VR] at q ⊢
    obtain ⟨a, e, n⟩ := q
    obtain ⟨t, em, _⟩ := E.m
    refine ⟨a, e, ?_⟩
    rw [em, List.getElem?_append_left (List.getElem?_eq_some_iff.mp n).1]
    exact n
theorem VRs.extS (R : HR K g H h) (E : ExtS g H g' H') : ∀ {l : List Val} {xs : List V}, VRs K g H l xs → VRs K g' H' l xs
  | [], xs, q => by simpa only [VRs] using q
  | v :: l, xs, q => by
    simp only [VRs] at q ⊢
    obtain ⟨x, r, e, q1, q2⟩ := q
    exact ⟨x, r, e, VR.extS R E q1, VRs.extS R E q2⟩
end
theorem VR.ext (R : HR K g H h) (E : Ext g H g' H') {v : Val} {x : V} (q : VR K g H v x) : VR K g' H' v x := VR.extS R E.s q
theorem VRs.ext (R : HR K g H h) (E : Ext g H g' H') {l : List Val} {xs : List V} (q : VRs K g H l xs) : VRs K g' H' l xs := VRs.extS R E.s q
theorem SR.ext {l : Loc} {σ : L2.St} (S : SR K g H l σ) (R : HR K g H h) (E : Ext g H g' H') : SR K g' H' l σ :=
  ⟨S.len, fun i v e => by obtain ⟨x, e1, e2⟩ := S.at_ i v e; exact ⟨x, e1, e2.ext R E⟩⟩
end
section
variable {K : PySem.W.Frag} {g : Gh} {H : Hp}
theorem VRs.length : ∀ {l : List Val} {xs : List V}, VRs K g H l xs → l.length = xs.length
  | [], xs, q => by simp only [VRs] at q; subst q; rfl
  | v :: l, xs, q => by
    simp only [VRs] at q
    obtain ⟨x, r, e, _, q2⟩ := q
    subst e
    simp [VRs.length q2]
theorem VRs.get : ∀ {l : List Val} {xs : List V} {i : Nat} {v : Val}, VRs K g H l xs → l[i]? = some v → ∃ x, xs[i]? = some x ∧ VR K g H v x
  | [], xs, i, v, q, e => by simp at e
  | w :: l, xs, i, v, q, e => by
    simp only [VRs] at q
    obtain ⟨x, r, rfl, q1, q2⟩ := q
    cases i with
    | zero => simp at e; subst e; exact ⟨x, by simp, q1⟩
    | succ i =>
      obtain ⟨y, e1, e2⟩ := VRs.get (i := i) q2 (by simpa using e)
      exact ⟨y, by simpa using e1, e2⟩
theorem VRs.get' : ∀ {l : List Val} {xs : List V} {i : Nat} {x : V}, VRs K g H l xs → xs[i]? = some x → ∃ v, l[i]? = some v ∧ VR K g H v x
  | [], xs, i, v, q, e => by simp only [VRs] at q; subst q; simp at e
  | w :: l, xs, i, v, q, e => by
    simp only [VRs] at q
    obtain ⟨x, r, rfl, q1, q2⟩ := q
    cases i with
    | zero => simp at e; subst e; exact ⟨w, by simp, q1⟩
    | succ i =>
      obtain ⟨y, e1, e2⟩ := VRs.get' (i := i) q2 (by simpa using e)
      exact ⟨y, by simpa using e1, e2⟩
theorem VRs.append : ∀ {l l' : List Val} {xs xs' : List V}, VRs K g H l xs → VRs K g H l' xs' → VRs K g H (l ++ l') (xs ++ xs')
  | [], l', xs, xs', q, q' => by simp only [VRs] at q; subst q; simpa using q'
  | v :: l, l', xs, xs', q, q' => by
    simp only [VRs] at q
    obtain ⟨x, r, rfl, q1, q2⟩ := q
    show VRs K g H (v :: (l ++ l')) (x :: (r ++ xs'))
    simp only [VRs]
    exact ⟨x, _, rfl, q1, VRs.append q2 q'⟩
theorem VRs.nil : VRs K g H [] [] := by simp only [VRs]
theorem VRs.cons {v : Val} {x : V} {l : List Val} {xs : List V} (a : VR K g H v x) (b : VRs K g H l xs) : VRs K g H (v :: l) (x :: xs) := by
  simp only [VRs]; exact ⟨x, xs, rfl, a, b⟩
theorem VRs.one {v : Val} {x : V} (a : VR K g H v x) : VRs K g H [v] [x] := .cons a .nil
theorem VRs.take : ∀ {l : List Val} {xs : List V} (n : Nat), VRs K g H l xs → VRs K g H (l.take n) (xs.take n)
  | l, xs, 0, q => by simpa using VRs.nil
  | [], xs, n + 1, q => by simp only [VRs] at q; subst q; simpa using VRs.nil
  | v :: l, xs, n + 1, q => by
    simp only [VRs] at q
    obtain ⟨x, r, rfl, q1, q2⟩ := q
    exact .cons q1 (VRs.take n q2)
theorem VRs.drop : ∀ {l : List Val} {xs : List V} (n : Nat), VRs K g H l xs → VRs K g H (l.drop n) (xs.drop n)
  | l, xs, 0, q => by simpa using q
  | [], xs, n + 1, q => by simp only [VRs] at q; subst q; simpa using VRs.nil
  | v :: l, xs, n + 1, q => by
    simp only [VRs] at q
    obtain ⟨x, r, rfl, q1, q2⟩ := q
    simpa using VRs.drop n q2
theorem VRs.reverse : ∀ {l : List Val} {xs : List V}, VRs K g H l xs → VRs K g H l.reverse xs.reverse
  | [], xs, q => by simp only [VRs] at q; subst q; simpa using VRs.nil
  | v :: l, xs, q => by
    simp only [VRs] at q
    obtain ⟨x, r, rfl, q1, q2⟩ := q
    simp only [List.reverse_cons]
    exact (VRs.reverse q2).append (.one q1)
theorem VRs.set : ∀ {l : List Val} {xs : List V} (i : Nat) {v : Val} {x : V}, VRs K g H l xs → VR K g H v x → VRs K g H (l.set i v) (xs.set i x)
  | [], xs, i, v, x, q, p => by simp only [VRs] at q; subst q; simpa using VRs.nil
  | w :: l, xs, 0, v, x, q, p => by
    simp only [VRs] at q
    obtain ⟨y, r, rfl, q1, q2⟩ := q
    exact .cons p q2
  | w :: l, xs, i + 1, v, x, q, p => by
    simp only [VRs] at q
    obtain ⟨y, r, rfl, q1, q2⟩ := q
    exact .cons q1 (VRs.set i q2 p)
end
end GH
set_option Elab.async false
set_option linter.all false
set_option maxRecDepth 100000
set_option maxHeartbeats 1000000
set_option autoImplicit false
/-! What a piece of text yields, as a function over values and the small heap; the judgements. -/
namespace GH
open PySem PySem.Spec PyProof.Rows L2
variable [TheWorld]

structure Ex where
  c : List Nat
  fs : List (List Nat × Val)
inductive Res (α : Type) where
  | ok (a : α) (h : Hv)
  | exc (e : Ex) (h : Hv)
  | fail
def Res.bind {α β : Type} (r : Res α) (k : α → Hv → Res β) : Res β := match r with
  | .ok a h => k a h
  | .exc e h => .exc e h
  | .fail => .fail
@[simp] theorem Res.bind_ok {α β : Type} (a : α) (h : Hv) (k : α → Hv → Res β) : (Res.ok a h).bind k = k a h := rfl
@[simp] theorem Res.bind_exc {α β : Type} (e : Ex) (h : Hv) (k : α → Hv → Res β) : (Res.exc e h : Res α).bind k = .exc e h := rfl
@[simp] theorem Res.bind_fail {α β : Type} (k : α → Hv → Res β) : (Res.fail : Res α).bind k = .fail := rfl
abbrev DenG (α : Type) := Loc → Hv → Res α
abbrev Den := DenG Val
def ER (K : PySem.W.Frag) (g : Gh) (H : Hp) (e : Ex) (cls : Value) (d : Option Addr) : Prop := cls = .ref (clsA K e.c) ∧ match e.fs with
  | [] => d = none
  | p :: r => ∃ a gs, d = some a ∧ ¬ g.own a ∧ H a = some (.xd gs) ∧ FR K g H (p :: r) gs

def After {α β : Type} (K : PySem.W.Frag) (W : WX) (rel : Gh → Hp → α → β → Prop) (σ : L2.St) (g : Gh) (H : Hp) (Q : β → Hp → Prop) : Res α → Prop
  | .ok v h' => ∀ g' H' x, Ext g H g' H' → HR K g' H' h' → rel g' H' v x → Q x H'
  | .exc e h' => ∀ g' H' cls d, Ext g H g' H' → HR K g' H' h' → ER K g' H' e cls d → W cls d σ H'
  | .fail => False
section
variable {α β : Type} {K : PySem.W.Frag} {W : WX} {rel : Gh → Hp → α → β → Prop} {σ : L2.St} {g g1 : Gh} {H H1 : Hp} {Q : β → Hp → Prop}
theorem After.ext {r : Res α} (E : Ext g H g1 H1) (A : After K W rel σ g H Q r) : After K W rel σ g1 H1 Q r := by
  cases r with
  | ok v h => exact fun g' H' x E' => A g' H' x (E.trans E')
  | exc e h => exact fun g' H' c d E' => A g' H' c d (E.trans E')
  | fail => exact A
def tG (K : PySem.W.Frag) (W : WX) (rel : Gh → Hp → α → β → Prop) (d : DenG α) : L2.St → Hp → (β → Hp → Prop) → Prop :=
  fun σ H Q => ∃ g l h, SR K g H l σ ∧ HR K g H h ∧ After K W rel σ g H Q (d l h)
end
abbrev vr (K : PySem.W.Frag) : Gh → Hp → Val → V → Prop := fun g H v x => VR K g H v x
abbrev vrs (K : PySem.W.Frag) : Gh → Hp → List Val → List V → Prop := fun g H v x => VRs K g H v x
abbrev br : Gh → Hp → Bool → Bool → Prop := fun _ _ a b => a = b
/-- an expression yields what d says -/
def GE (X : Cx) (W : WX) (e : Expr) (d : Den) : Prop := PE X e (tG X.K W (vr X.K) d)
def GA (X : Cx) (W : WX) (es : List Expr) (d : DenG (List Val)) : Prop := PA X es (tG X.K W (vrs X.K) d)
def GT (X : Cx) (W : WX) (e : Expr) (d : DenG Bool) : Prop := PT X e (tG X.K W br d)
def GW (X : Cx) (W : WX) (e : Expr) (d : DenG Bool) : Prop := PW X e (tG X.K W br d)

section
variable {α β γ δ : Type} {K : PySem.W.Frag} {W : WX} {σ : L2.St} {g : Gh} {H : Hp} {l : Loc} {h : Hv}
/-- the first part of a bind -/
theorem tG_of {rel : Gh → Hp → α → β → Prop} {rel2 : Gh → Hp → γ → δ → Prop} {d : DenG α} {k : α → Hv → Res γ} {Q : δ → Hp → Prop} {R : β → Hp → Prop} (S : SR K g H l σ) (hr : HR K g H h) (A : After K W rel2 σ g H Q ((d l h).bind k))
    (hk : ∀ v h1 g1 H1 x, Ext g H g1 H1 → SR K g1 H1 l σ → HR K g1 H1 h1 → rel g1 H1 v x → After K W rel2 σ g1 H1 Q (k v h1) → R x H1) : tG K W rel d σ H R := by
  refine ⟨g, l, h, S, hr, ?_⟩
  cases e : d l h with
  | ok v h1 =>
    rw [e] at A
    intro g' H' x E R' r
    exact hk v h1 g' H' x E (S.ext hr E) R' r (After.ext E A)
  | exc x h1 =>
    rw [e] at A
    exact A
  | fail =>
    rw [e] at A
    exact A
end
theorem PE.imp {X : Cx} {e : Expr} {t t' : TE} (p : PE X e t) (h : ∀ σ H Q, t' σ H Q → t σ H Q) : PE X e t' := ⟨fun pins s σ H Q I q => p.run pins s σ H Q I (h σ H Q q)⟩
theorem PA.imp {X : Cx} {e : List Expr} {t t' : TA} (p : PA X e t) (h : ∀ σ H Q, t' σ H Q → t σ H Q) : PA X e t' := ⟨fun pos pins s σ H Q I q => p.run pos pins s σ H Q I (h σ H Q q)⟩
theorem PT.imp {X : Cx} {e : Expr} {t t' : TT} (p : PT X e t) (h : ∀ σ H Q, t' σ H Q → t σ H Q) : PT X e t' := ⟨fun pins s σ H Q I q => p.run pins s σ H Q I (h σ H Q q)⟩
theorem PW.imp {X : Cx} {e : Expr} {t t' : TT} (p : PW X e t) (h : ∀ σ H Q, t' σ H Q → t σ H Q) : PW X e t' := ⟨fun w pins s σ H Q I q => p.run w pins s σ H Q I (h σ H Q q)⟩
theorem PS.imp {X : Cx} {e : Stmt} {t t' : TS} (p : PS X e t) (h : ∀ D σ H, t' D σ H → t D σ H) : PS X e t' := ⟨fun pins s σ H D I q => p.run pins s σ H D I (h D σ H q)⟩
theorem PSs.imp {X : Cx} {e : List Stmt} {t t' : TS} (p : PSs X e t) (h : ∀ D σ H, t' D σ H → t D σ H) : PSs X e t' := ⟨fun pins s σ H D I q => p.run pins s σ H D I (h D σ H q)⟩

/-! ### names, constants -/
def dVar (i : Nat) : Den := fun l h => match l[i]? with
  | some (some v) => .ok v h
  | _ => .fail
def dC (v : Val) : Den := fun _ h => .ok v h
section
variable {X : Cx} {W : WX}
theorem ge_var (i : Nat) {x : Str} {pos : Pos} (hN : X.N[i]? = some x := by rfl) (hv : Vis X.env.scope x := by first | exact Or.inl rfl | exact Or.inr (Or.inl rfl) | exact Or.inr (Or.inr rfl)) (hd : (x == ("__debug__" : Str)) = false := by decide +kernel)
    (hcd : (x == ("__classdict__" : Str)) = false := by decide +kernel) : GE X W (.Name x pos) (dVar i) := by
  refine PE.imp (pe_var hN hv hd hcd) fun σ H Q ⟨g, l, h, S, R, A⟩ => ?_
  unfold dVar at A
  split at A
  · rename_i v e
    obtain ⟨x, e1, r⟩ := S.at_ i v e
    exact ⟨x, e1, A g H x Ext.refl R r⟩
  · exact A.elim
theorem ge_c {e : Expr} {v : Val} {x : V} (p : PE X e (tC x)) (r : ∀ g H, VR X.K g H v x) : GE X W e (dC v) :=
  PE.imp p fun σ H Q ⟨g, l, h, S, R, A⟩ => A g H x Ext.refl R (r g H)
theorem ge_int {i : Int} {j pos} : GE X W (.Constant (.int i) j pos) (dC (.int i)) := ge_c pe_int fun _ _ => by simp only [VR]
theorem ge_bl {b : Bool} {j pos} : GE X W (.Constant (.bool b) j pos) (dC (.bl b)) := ge_c pe_bl fun _ _ => by simp only [VR]
theorem ge_non {j pos} : GE X W (.Constant .none j pos) (dC .non) := ge_c pe_non fun _ _ => by simp only [VR]
theorem ge_str (s : List Nat) {x : Str} {j pos} (e : x = sOf s := by decide +kernel) : GE X W (.Constant (.str x) j pos) (dC (.str s)) := by
  subst e
  exact ge_c pe_str fun _ _ => by simp only [VR]

/-! ### arguments, displays -/
def dNil : DenG (List Val) := fun _ h => .ok [] h
def dCons (d : Den) (r : DenG (List Val)) : DenG (List Val) := fun l h => (d l h).bind fun v h1 => (r l h1).bind fun vs h2 => .ok (v :: vs) h2
theorem ga_nil : GA X W [] dNil := PA.imp pa_nil fun σ H Q ⟨g, l, h, S, R, A⟩ => A g H [] Ext.refl R VRs.nil
theorem ga_cons {e : Expr} {es : List Expr} {d : Den} {r : DenG (List Val)} (ha : GE X W e d) (hr : GA X W es r) (hs : starEach (e :: es) X.env = (false, eval e X.env) :: starEach es X.env := by rfl) : GA X W (e :: es) (dCons d r) := by
  refine PA.imp (pa_cons ha hr hs) fun σ H Q ⟨g, l, h, S, R, A⟩ => ?_
  refine tG_of S R A fun v h1 g1 H1 x E S1 R1 r1 A1 => ?_
  refine tG_of S1 R1 A1 fun vs h2 g2 H2 xs E2 S2 R2 r2 A2 => ?_
  exact A2 g2 H2 (x :: xs) Ext.refl R2 (.cons (r1.ext R1 E2) r2)
/-- a new object that is not tracked by us: a tuple, a list nobody writes -/
theorem HR.grow {K : PySem.W.Frag} {g : Gh} {H : Hp} {h : Hv} {p : Addr} {o : HO} (R : HR K g H h) (np : H p = none) : Ext g H g (upd H p o) ∧ HR K g (upd H p o) h := by
  have E : Ext g H g (upd H p o) := ⟨⟨[], by simp, by simp⟩, rfl, fun b u e _ hb => by rw [upd_ne (ne_of_none e np)]; exact e, fun b u e nt => ⟨u, by rw [upd_ne (ne_of_none e np)]; exact e, nt⟩⟩
  refine ⟨E, R.len, R.nd, R.dis, fun a ha => ?_, fun i o' a e1 e2 => ?_⟩
  · obtain ⟨ob, e, mu⟩ := R.al a ha
    exact ⟨ob, by rw [upd_ne (ne_of_none e np)]; exact e, mu⟩
  · have q := R.obj i o' a e1 e2
    cases o' with
    | lst l => obtain ⟨xs, e, r⟩ := q; exact ⟨xs, by rw [upd_ne (ne_of_none e np)]; exact e, r.ext R E⟩
    | dic l => obtain ⟨xs, e, r⟩ := q; exact ⟨xs, by rw [upd_ne (ne_of_none e np)]; exact e, r.1, r.2.ext R E⟩
    | ins c f => obtain ⟨dx, gs, e, r⟩ := q; exact ⟨dx, gs, by rw [upd_ne (ne_of_none e np)]; exact e, r.1, r.2.ext R E⟩
    | dn l => obtain ⟨xs, ys, e, p, r1, r2⟩ := q; exact ⟨xs, ys, by rw [upd_ne (ne_of_none e np)]; exact e, p, r1.ext R E, r2.ext R E⟩
    | tbl t => exact ⟨q.1, q.2.stay (fun ps e => by rw [upd_ne (ne_of_none e np)]; exact e) (fun c o e nt hn => ⟨by rw [upd_ne (ne_of_none e np)]; exact e, E.nown hn e nt⟩)⟩
/-- a new object that is tracked by us -/
theorem HR.push {K : PySem.W.Frag} {g : Gh} {H : Hp} {h : Hv} {p : Addr} {o : HO} {ob : Ob} (R : HR K g H h) (np : H p = none)
    (ok : OR K ⟨g.m ++ [p], g.r⟩ (upd H p o) p ob) : Ext g H ⟨g.m ++ [p], g.r⟩ (upd H p o) ∧ HR K ⟨g.m ++ [p], g.r⟩ (upd H p o) (h ++ [ob]) := by
  have E : Ext g H ⟨g.m ++ [p], g.r⟩ (upd H p o) := ⟨⟨[p], rfl, fun b hb => by rw [List.mem_singleton.mp hb]; exact fre_none np⟩, rfl, fun b u e _ hb => by rw [upd_ne (ne_of_none e np)]; exact e, fun b u e nt => ⟨u, by rw [upd_ne (ne_of_none e np)]; exact e, nt⟩⟩
  have hp : ¬ g.own p := R.fresh np
  refine ⟨E, by simp [R.len], ?_, ?_, fun a ha => ?_, fun i o' a e1 e2 => ?_⟩
  · show (g.m ++ [p]).Nodup
    refine List.nodup_append.mpr ⟨R.nd, by simp, fun a ha b hb => ?_⟩
    rw [List.mem_singleton.mp hb]
    rintro rfl
    exact hp (.inl ha)
  · show ∀ a ∈ g.m ++ [p], a ∉ g.r
    intro a ha
    rcases List.mem_append.mp ha with ha | ha
    · exact R.dis a ha
    · rw [List.mem_singleton.mp ha]
      exact fun z => hp (.inr z)
  · obtain ⟨ob, e, mu⟩ := R.al a ha
    exact ⟨ob, by rw [upd_ne (ne_of_none e np)]; exact e, mu⟩
  · have e2 : (g.m ++ [p])[i]? = some a := e2
    by_cases hi : i < h.length
    · rw [List.getElem?_append_left hi] at e1
      rw [List.getElem?_append_left (by rw [R.len]; exact hi)] at e2
      have q := R.obj i o' a e1 e2
      cases o' with
      | lst l => obtain ⟨xs, e, r⟩ := q; exact ⟨xs, by rw [upd_ne (ne_of_none e np)]; exact e, r.ext R E⟩
      | dic l => obtain ⟨xs, e, r⟩ := q; exact ⟨xs, by rw [upd_ne (ne_of_none e np)]; exact e, r.1, r.2.ext R E⟩
      | ins c f => obtain ⟨dx, gs, e, r⟩ := q; exact ⟨dx, gs, by rw [upd_ne (ne_of_none e np)]; exact e, r.1, r.2.ext R E⟩
      | dn l => obtain ⟨xs, ys, e, p, r1, r2⟩ := q; exact ⟨xs, ys, by rw [upd_ne (ne_of_none e np)]; exact e, p, r1.ext R E, r2.ext R E⟩
      | tbl t => exact ⟨q.1, q.2.stay (fun ps e => by rw [upd_ne (ne_of_none e np)]; exact e) (fun c o e nt hn => ⟨by rw [upd_ne (ne_of_none e np)]; exact e, E.nown hn e nt⟩)⟩
    · have hi' : i = h.length := by
        have := (List.getElem?_eq_some_iff.mp e1).1
        simp at this
        omega
      subst hi'
      rw [List.getElem?_append_right (Nat.le_refl _)] at e1
      rw [List.getElem?_append_right (by rw [R.len]; exact Nat.le_refl _)] at e2
      simp at e1
      rw [R.len] at e2
      simp at e2
      subst e1 e2
      exact ok
def lineN : Nat := 16777216
theorem line_ok {n : Nat} (h : n ≤ lineN) : n ≤ sizeLine := by rw [sizeLine_eq]; exact h
theorem line_lt {n : Nat} (h : n < lineN) : n < sizeLine := by rw [sizeLine_eq]; exact h
/-- the result stands in a new tuple -/
def mkTup (vs : List Val) (h : Hv) : Res Val := if vs.length ≤ lineN then .ok (.tup vs) h else .fail
def mkLst (vs : List Val) (h : Hv) : Res Val := if vs.length ≤ lineN then .ok (.lst vs) h else .fail
def mkRef (vs : List Val) (h : Hv) : Res Val := if vs.length ≤ lineN then .ok (.ref h.length) (h ++ [.lst vs]) else .fail
section
variable {K : PySem.W.Frag} {σ : L2.St} {g : Gh} {H : Hp} {h : Hv} {Q : VK} {vs : List Val} {xs : List V}
theorem mkTup_ok (R : HR K g H h) (r : VRs K g H vs xs) (A : After K W (vr K) σ g H Q (mkTup vs h)) : xs.length ≤ sizeLine ∧ ∀ p, H p = none → Q (.ref p) (upd H p (.tup xs)) := by
  unfold mkTup at A
  split at A
  · rename_i hl
    refine ⟨by rw [← r.length]; exact line_ok hl, fun p np => ?_⟩
    obtain ⟨E, R1⟩ := R.grow (o := .tup xs) np
    refine A g _ (.ref p) E R1 ?_
    simp only [VR]
    exact ⟨p, xs, rfl, SqT.of upd_same, r.ext R E⟩
  · exact A.elim
theorem mkLst_ok (R : HR K g H h) (r : VRs K g H vs xs) (A : After K W (vr K) σ g H Q (mkLst vs h)) : xs.length ≤ sizeLine ∧ ∀ p, H p = none → Q (.ref p) (upd H p (.lst xs)) := by
  unfold mkLst at A
  split at A
  · rename_i hl
    refine ⟨by rw [← r.length]; exact line_ok hl, fun p np => ?_⟩
    obtain ⟨E, R1⟩ := R.grow (o := .lst xs) np
    refine A g _ (.ref p) E R1 ?_
    simp only [VR]
    exact ⟨p, xs, rfl, R.fresh np, upd_same, r.ext R E⟩
  · exact A.elim
theorem mkRef_ok (R : HR K g H h) (r : VRs K g H vs xs) (A : After K W (vr K) σ g H Q (mkRef vs h)) : xs.length ≤ sizeLine ∧ ∀ p, H p = none → Q (.ref p) (upd H p (.lst xs)) := by
  unfold mkRef at A
  split at A
  · rename_i hl
    refine ⟨by rw [← r.length]; exact line_ok hl, fun p np => ?_⟩
    have E : Ext g H ⟨g.m ++ [p], g.r⟩ (upd H p (.lst xs)) := ⟨⟨[p], rfl, fun b hb => by rw [List.mem_singleton.mp hb]; exact fre_none np⟩, rfl, fun b u e _ hb => by rw [upd_ne (ne_of_none e np)]; exact e, fun b u e nt => ⟨u, by rw [upd_ne (ne_of_none e np)]; exact e, nt⟩⟩
    obtain ⟨_, R1⟩ := R.push (o := .lst xs) (ob := .lst vs) np ⟨xs, upd_same, r.ext R E⟩
    refine A _ _ (.ref p) E R1 ?_
    simp only [VR]
    refine ⟨p, rfl, ?_⟩
    show (g.m ++ [p])[h.length]? = some p
    rw [← R.len]
    simp
  · exact A.elim
end
def dTup (r : DenG (List Val)) : Den := fun l h => (r l h).bind mkTup
def dLst (r : DenG (List Val)) : Den := fun l h => (r l h).bind mkLst
def dLstM (r : DenG (List Val)) : Den := fun l h => (r l h).bind mkRef
theorem ge_tup {es : List Expr} {r : DenG (List Val)} {k : Nat} {pos : Pos} (ha : GA X W es r) : GE X W (.Tuple es k pos) (dTup r) := by
  refine PE.imp (pe_tup ha) fun σ H Q ⟨g, l, h, S, R, A⟩ => ?_
  exact tG_of S R A fun v h1 g1 H1 x E S1 R1 r1 A1 => mkTup_ok R1 r1 A1
theorem ge_lst {es : List Expr} {r : DenG (List Val)} {pos : Pos} (ha : GA X W es r) : GE X W (.List es pos) (dLst r) := by
  refine PE.imp (pe_lst ha) fun σ H Q ⟨g, l, h, S, R, A⟩ => ?_
  exact tG_of S R A fun v h1 g1 H1 x E S1 R1 r1 A1 => mkLst_ok R1 r1 A1
theorem ge_lstM {es : List Expr} {r : DenG (List Val)} {pos : Pos} (ha : GA X W es r) : GE X W (.List es pos) (dLstM r) := by
  refine PE.imp (pe_lst ha) fun σ H Q ⟨g, l, h, S, R, A⟩ => ?_
  exact tG_of S R A fun v h1 g1 H1 x E S1 R1 r1 A1 => mkRef_ok R1 r1 A1

/-! ### operators: by values -/
/-- f on values, when the operands stand, is r -/
def OpG (X : Cx) (op : Value → Value → Sem Value) (f : Val → Val → Hv → Res Val) : Prop := ∃ r : R2, OpR X op r ∧
  ∀ (W : WX) (g : Gh) (H : Hp) (h : Hv) (σ : L2.St) (v u : Val) (x y : V) (Q : VK), HR X.K g H h → VR X.K g H v x → VR X.K g H u y → After X.K W (vr X.K) σ g H Q (f v u h) → r x y H Q
def dBin (f : Val → Val → Hv → Res Val) (da db : Den) : Den := fun l h => (da l h).bind fun v h1 => (db l h1).bind fun u h2 => f v u h2
theorem tBin {X : Cx} {W : WX} {f : Val → Val → Hv → Res Val} {da db : Den} {r : R2}
    (hr : ∀ (W : WX) (g : Gh) (H : Hp) (h : Hv) (σ : L2.St) (v u : Val) (x y : V) (Q : VK), HR X.K g H h → VR X.K g H v x → VR X.K g H u y → After X.K W (vr X.K) σ g H Q (f v u h) → r x y H Q)
    (σ : L2.St) (H : Hp) (Q : VK) (z : tG X.K W (vr X.K) (dBin f da db) σ H Q) : tOp r (tG X.K W (vr X.K) da) (tG X.K W (vr X.K) db) σ H Q := by
  obtain ⟨g, l, h, S, R, A⟩ := z
  refine tG_of S R A fun v h1 g1 H1 x E S1 R1 r1 A1 => ?_
  refine tG_of S1 R1 A1 fun u h2 g2 H2 y E2 S2 R2 r2 A2 => ?_
  exact hr W g2 H2 h2 σ v u x y Q R2 (r1.ext R1 E2) r2 A2
theorem ge_bin {op : Operator} {f : Val → Val → Hv → Res Val} {a b : Expr} {da db : Den} {pos : Pos} (ho : OpG X (binaryOp op) f) (ha : GE X W a da) (hb : GE X W b db) : GE X W (.BinOp a op b pos) (dBin f da db) := by
  obtain ⟨r, ho, hr⟩ := ho
  exact PE.imp (pe_op ho ha hb) fun σ H Q z => tBin hr σ H Q z
theorem ge_cmp {op : CmpOp} {f : Val → Val → Hv → Res Val} {a b : Expr} {da db : Den} {pos : Pos} (ho : OpG X (compareOp op) f) (ha : GE X W a da) (hb : GE X W b db) (hm : behindInMarks op b = false := by first | exact nomark _ | rfl) : GE X W (.Compare a [op] [b] pos) (dBin f da db) := by
  obtain ⟨r, ho, hr⟩ := ho
  exact PE.imp (pe_cmpR ho ha hb hm) fun σ H Q z => tBin hr σ H Q z
def resB (r : Res Val) : Res Bool := r.bind fun v h => match v with
  | .bl b => .ok b h
  | _ => .fail
/-- an expression that yields a bool, as a test -/
def dB (d : Den) : DenG Bool := fun l h => resB (d l h)
theorem tB_of {d : Den} {σ : L2.St} {H : Hp} {Q : Bool → Hp → Prop} (z : tG X.K W br (dB d) σ H Q) : tG X.K W (vr X.K) d σ H fun x H1 => ∃ c, x = .bl c ∧ Q c H1 := by
  obtain ⟨g, l, h, S, R, A⟩ := z
  refine tG_of S R (A : After X.K W br σ g H Q ((d l h).bind _)) fun v h1 g1 H1 x E S1 R1 r1 A1 => ?_
  cases v with
  | bl b =>
    simp only [VR] at r1
    exact ⟨b, r1, A1 g1 H1 b Ext.refl R1 rfl⟩
  | _ => exact A1.elim
theorem gt_cmp {op : CmpOp} {f : Val → Val → Hv → Res Val} {a b : Expr} {da db : Den} {pos : Pos} (ho : OpG X (compareOp op) f) (ha : GE X W a da) (hb : GE X W b db) (hm : behindInMarks op b = false := by first | exact nomark _ | rfl) : GT X W (.Compare a [op] [b] pos) (dB (dBin f da db)) := by
  obtain ⟨r, ho, hr⟩ := ho
  exact PT.imp (pt_cmpR ho ha hb hm) fun σ H Q z => tBin hr σ H _ (tB_of z)
theorem gt_val {e : Expr} {d : Den} (he : GE X W e d) (hs : ∀ whole, isTrue e X.env whole = (do let v ← whole; standAt e.pos; holding [v] (truthy v)) := by intro _; rfl) : GT X W e (dB d) :=
  PT.imp (pt_val he hs) fun σ H Q z => tB_of z

/-! ### and, or, not; if-else -/
def dAnd (a b : DenG Bool) : DenG Bool := fun l h => (a l h).bind fun c h1 => if c then b l h1 else .ok false h1
def dOr (a b : DenG Bool) : DenG Bool := fun l h => (a l h).bind fun c h1 => if c then .ok true h1 else b l h1
def dNot (a : DenG Bool) : DenG Bool := fun l h => (a l h).bind fun c h1 => .ok (!c) h1
theorem gw_and1 {a : Expr} {d : DenG Bool} {pos : Pos} (ha : GT X W a d) : GW X W (.BoolOp .And [a] pos) d := pw_and1 ha
theorem gw_or1 {a : Expr} {d : DenG Bool} {pos : Pos} (ha : GT X W a d) : GW X W (.BoolOp .Or [a] pos) d := pw_or1 ha
theorem gw_and {a b : Expr} {rest : List Expr} {da db : DenG Bool} {pos : Pos} (ha : GT X W a da) (hb : GW X W (.BoolOp .And (b :: rest) pos) db) : GW X W (.BoolOp .And (a :: b :: rest) pos) (dAnd da db) := by
  refine PW.imp (pw_and ha hb) fun σ H Q ⟨g, l, h, S, R, A⟩ => ?_
  refine tG_of S R A fun v h1 g1 H1 x E S1 R1 r1 A1 => ?_
  obtain rfl : v = x := r1
  cases v with
  | true => exact ⟨g1, l, h1, S1, R1, A1⟩
  | false => exact A1 g1 H1 false Ext.refl R1 rfl
theorem gw_or {a b : Expr} {rest : List Expr} {da db : DenG Bool} {pos : Pos} (ha : GT X W a da) (hb : GW X W (.BoolOp .Or (b :: rest) pos) db) : GW X W (.BoolOp .Or (a :: b :: rest) pos) (dOr da db) := by
  refine PW.imp (pw_or ha hb) fun σ H Q ⟨g, l, h, S, R, A⟩ => ?_
  refine tG_of S R A fun v h1 g1 H1 x E S1 R1 r1 A1 => ?_
  obtain rfl : v = x := r1
  cases v with
  | true => exact A1 g1 H1 true Ext.refl R1 rfl
  | false => exact ⟨g1, l, h1, S1, R1, A1⟩
theorem GW.pt {e : Expr} {d : DenG Bool} (h : GW X W e d) : GT X W e d := PW.pt h
theorem gt_not {a : Expr} {d : DenG Bool} {pos : Pos} (ha : GT X W a d) : GT X W (.UnaryOp .Not a pos) (dNot d) := by
  refine PT.imp (pt_not ha) fun σ H Q ⟨g, l, h, S, R, A⟩ => ?_
  refine tG_of S R A fun v h1 g1 H1 x E S1 R1 r1 A1 => ?_
  obtain rfl : v = x := r1
  exact A1 g1 H1 (!v) Ext.refl R1 rfl
def dIf (c : DenG Bool) (a b : Den) : Den := fun l h => (c l h).bind fun t h1 => if t then a l h1 else b l h1
theorem ge_if {c a b : Expr} {dc : DenG Bool} {da db : Den} {pos : Pos} (hc : GT X W c dc) (ha : GE X W a da) (hb : GE X W b db) : GE X W (.IfExp c a b pos) (dIf dc da db) := by
  refine PE.imp (pe_ifExp hc ha hb) fun σ H Q ⟨g, l, h, S, R, A⟩ => ?_
  refine tG_of S R A fun v h1 g1 H1 x E S1 R1 r1 A1 => ?_
  obtain rfl : v = x := r1
  cases v with
  | true => exact ⟨g1, l, h1, S1, R1, A1⟩
  | false => exact ⟨g1, l, h1, S1, R1, A1⟩
/-- and, or, not as values (bools all) -/
def dAndV (a b : Den) : Den := fun l h => (a l h).bind fun v h1 => match v with
  | .bl c => if c then b l h1 else .ok (.bl false) h1
  | _ => .fail
def dOrV (a b : Den) : Den := fun l h => (a l h).bind fun v h1 => match v with
  | .bl c => if c then .ok (.bl true) h1 else b l h1
  | _ => .fail
def dNotV (a : Den) : Den := fun l h => (a l h).bind fun v h1 => match v with
  | .bl c => .ok (.bl (!c)) h1
  | _ => .fail
theorem ge_one {op} {a : Expr} {d : Den} {pos : Pos} (ha : GE X W a d) : GE X W (.BoolOp op [a] pos) d := pe_one ha
theorem ge_and {a b : Expr} {rest : List Expr} {da db : Den} {pos : Pos} (ha : GE X W a da) (hb : GE X W (.BoolOp .And (b :: rest) pos) db) : GE X W (.BoolOp .And (a :: b :: rest) pos) (dAndV da db) := by
  refine PE.imp (pe_and ha hb) fun σ H Q ⟨g, l, h, S, R, A⟩ => ?_
  refine tG_of S R A fun v h1 g1 H1 x E S1 R1 r1 A1 => ?_
  cases v with
  | bl c =>
    simp only [VR] at r1
    refine ⟨c, r1, ?_⟩
    cases c with
    | true => exact ⟨g1, l, h1, S1, R1, A1⟩
    | false => exact A1 g1 H1 (.bl false) Ext.refl R1 (by simp only [VR])
  | _ => exact A1.elim
theorem ge_or {a b : Expr} {rest : List Expr} {da db : Den} {pos : Pos} (ha : GE X W a da) (hb : GE X W (.BoolOp .Or (b :: rest) pos) db) : GE X W (.BoolOp .Or (a :: b :: rest) pos) (dOrV da db) := by
  refine PE.imp (pe_or ha hb) fun σ H Q ⟨g, l, h, S, R, A⟩ => ?_
  refine tG_of S R A fun v h1 g1 H1 x E S1 R1 r1 A1 => ?_
  cases v with
  | bl c =>
    simp only [VR] at r1
    refine ⟨c, r1, ?_⟩
    cases c with
    | true => exact A1 g1 H1 (.bl true) Ext.refl R1 (by simp only [VR])
    | false => exact ⟨g1, l, h1, S1, R1, A1⟩
  | _ => exact A1.elim
theorem ge_not {a : Expr} {d : Den} {pos : Pos} (ha : GE X W a d) : GE X W (.UnaryOp .Not a pos) (dNotV d) := by
  refine PE.imp (pe_not ha) fun σ H Q ⟨g, l, h, S, R, A⟩ => ?_
  refine tG_of S R A fun v h1 g1 H1 x E S1 R1 r1 A1 => ?_
  cases v with
  | bl c =>
    simp only [VR] at r1
    exact ⟨c, r1, A1 g1 H1 _ Ext.refl R1 (by simp only [VR])⟩
  | _ => exact A1.elim
end

/-! ### statements -/
inductive SRes where
  | nx (l : Loc) (h : Hv) | rt (v : Val) (h : Hv) | bk (l : Loc) (h : Hv) | ct (l : Loc) (h : Hv) | exc (e : Ex) (l : Loc) (h : Hv) | fail
abbrev Stm := Loc → Hv → SRes
def AfterS (K : PySem.W.Frag) (W : WX) (g : Gh) (H : Hp) (D : Ends) : SRes → Prop
  | .nx l' h' => ∀ g' H' σ', Ext g H g' H' → HR K g' H' h' → SR K g' H' l' σ' → D.nx σ' H'
  | .bk l' h' => ∀ g' H' σ', Ext g H g' H' → HR K g' H' h' → SR K g' H' l' σ' → D.bk σ' H'
  | .ct l' h' => ∀ g' H' σ', Ext g H g' H' → HR K g' H' h' → SR K g' H' l' σ' → D.ct σ' H'
  | .rt v h' => ∀ g' H' x, Ext g H g' H' → HR K g' H' h' → VR K g' H' v x → D.rt x H'
  | .exc e l' h' => ∀ g' H' σ' cls d, Ext g H g' H' → HR K g' H' h' → SR K g' H' l' σ' → ER K g' H' e cls d → W cls d σ' H'
  | .fail => False
theorem AfterS.ext {K : PySem.W.Frag} {W : WX} {g g1 : Gh} {H H1 : Hp} {D : Ends} {r : SRes} (E : Ext g H g1 H1) (A : AfterS K W g H D r) : AfterS K W g1 H1 D r := by
  cases r with
  | nx l h => exact fun g' H' x E' => A g' H' x (E.trans E')
  | bk l h => exact fun g' H' x E' => A g' H' x (E.trans E')
  | ct l h => exact fun g' H' x E' => A g' H' x (E.trans E')
  | rt l h => exact fun g' H' x E' => A g' H' x (E.trans E')
  | exc e l h => exact fun g' H' s c d E' => A g' H' s c d (E.trans E')
  | fail => exact A
def tS (K : PySem.W.Frag) (W : WX) (d : Stm) : TS := fun D σ H => ∃ g l h, SR K g H l σ ∧ HR K g H h ∧ AfterS K W g H D (d l h)
def GS (X : Cx) (W : WX) (st : Stmt) (d : Stm) : Prop := PS X st (tS X.K W d)
def GSs (X : Cx) (W : WX) (st : List Stmt) (d : Stm) : Prop := PSs X st (tS X.K W d)
/-- from an expression's result on -/
def Res.to {α : Type} (r : Res α) (l : Loc) (k : α → Hv → SRes) : SRes := match r with
  | .ok v h => k v h
  | .exc e h => .exc e l h
  | .fail => .fail
@[simp] theorem Res.to_ok {α : Type} (a : α) (h : Hv) (l : Loc) (k : α → Hv → SRes) : (Res.ok a h).to l k = k a h := rfl
@[simp] theorem Res.to_exc {α : Type} (e : Ex) (h : Hv) (l : Loc) (k : α → Hv → SRes) : (Res.exc e h : Res α).to l k = .exc e l h := rfl
@[simp] theorem Res.to_fail {α : Type} (l : Loc) (k : α → Hv → SRes) : (Res.fail : Res α).to l k = .fail := rfl
theorem tG_to {α β : Type} {K : PySem.W.Frag} {W : WX} {σ : L2.St} {g : Gh} {H : Hp} {l : Loc} {h : Hv} {rel : Gh → Hp → α → β → Prop} {d : DenG α} {k : α → Hv → SRes} {D : Ends} {R : β → Hp → Prop} (S : SR K g H l σ) (hr : HR K g H h) (A : AfterS K W g H D ((d l h).to l k))
    (hk : ∀ v h1 g1 H1 x, Ext g H g1 H1 → SR K g1 H1 l σ → HR K g1 H1 h1 → rel g1 H1 v x → AfterS K W g1 H1 D (k v h1) → R x H1) : tG K W rel d σ H R := by
  refine ⟨g, l, h, S, hr, ?_⟩
  cases e : d l h with
  | ok v h1 =>
    rw [e] at A
    intro g' H' x E R' r
    exact hk v h1 g' H' x E (S.ext hr E) R' r (AfterS.ext E A)
  | exc x h1 =>
    rw [e] at A
    intro g' H' c d' E R' r
    exact A g' H' σ c d' E R' (S.ext hr E) r
  | fail =>
    rw [e] at A
    exact A
def sNext : Stm := fun l h => .nx l h
def SRes.andThen (r : SRes) (k : Stm) : SRes := match r with
  | .nx l h => k l h
  | r => r
@[simp] theorem SRes.andThen_nx (l : Loc) (h : Hv) (k : Stm) : (SRes.nx l h).andThen k = k l h := rfl
@[simp] theorem SRes.andThen_rt (v : Val) (h : Hv) (k : Stm) : (SRes.rt v h).andThen k = .rt v h := rfl
@[simp] theorem SRes.andThen_bk (l : Loc) (h : Hv) (k : Stm) : (SRes.bk l h).andThen k = .bk l h := rfl
@[simp] theorem SRes.andThen_ct (l : Loc) (h : Hv) (k : Stm) : (SRes.ct l h).andThen k = .ct l h := rfl
@[simp] theorem SRes.andThen_exc (e : Ex) (l : Loc) (h : Hv) (k : Stm) : (SRes.exc e l h).andThen k = .exc e l h := rfl
@[simp] theorem SRes.andThen_fail (k : Stm) : SRes.fail.andThen k = .fail := rfl
def sSeq (a b : Stm) : Stm := fun l h => (a l h).andThen b
def sRet (d : Den) : Stm := fun l h => (d l h).to l .rt
def sRetN : Stm := fun _ h => .rt .non h
def sExpr (d : Den) : Stm := fun l h => (d l h).to l fun _ h1 => .nx l h1
def sIf (c : DenG Bool) (a b : Stm) : Stm := fun l h => (c l h).to l fun t h1 => if t then a l h1 else b l h1
def sBreak : Stm := fun l h => .bk l h
def sCont : Stm := fun l h => .ct l h
section
variable {X : Cx} {W : WX}
theorem gs_nil : GSs X W [] sNext := PSs.imp pss_nil fun D σ H ⟨g, l, h, S, R, A⟩ => A g H σ Ext.refl R S
theorem gs_cons {st : Stmt} {rest : List Stmt} {a b : Stm} (h1 : GS X W st a) (h2 : GSs X W rest b) : GSs X W (st :: rest) (sSeq a b) := by
  refine PSs.imp (pss_cons h1 h2) fun D σ H ⟨g, l, h, S, R, A⟩ => ⟨g, l, h, S, R, ?_⟩
  unfold sSeq at A
  cases e : a l h with
  | nx l1 h1 =>
    rw [e] at A
    exact fun g' H' σ' E R' S' => ⟨g', l1, h1, S', R', AfterS.ext E A⟩
  | bk l1 h1 => rw [e] at A; exact A
  | ct l1 h1 => rw [e] at A; exact A
  | rt l1 h1 => rw [e] at A; exact A
  | exc x l1 h1 => rw [e] at A; exact A
  | fail => rw [e] at A; exact A
theorem gs_one {st : Stmt} {a : Stm} (h1 : GS X W st a) : GSs X W [st] a := pss_one h1
theorem gs_ret {e : Expr} {d : Den} {pos : Pos} (he : GE X W e d) : GS X W (.Return (some e) pos) (sRet d) := by
  refine PS.imp (ps_ret he) fun D σ H ⟨g, l, h, S, R, A⟩ => ?_
  exact tG_to S R A fun v h1 g1 H1 x E S1 R1 r1 A1 => A1 g1 H1 x Ext.refl R1 r1
theorem gs_retN {pos : Pos} : GS X W (.Return none pos) sRetN := PS.imp ps_retN fun D σ H ⟨g, l, h, S, R, A⟩ => A g H .non Ext.refl R (by simp only [VR])
theorem gs_expr {e : Expr} {d : Den} {pos : Pos} (he : GE X W e d) (hs : swapsWith e none pos.line X.env = pure false := by rfl) : GS X W (.Expr e pos) (sExpr d) := by
  refine PS.imp (ps_expr he hs) fun D σ H ⟨g, l, h, S, R, A⟩ => ?_
  exact tG_to S R A fun v h1 g1 H1 x E S1 R1 r1 A1 => A1 g1 H1 σ Ext.refl R1 S1
theorem gs_if {c : Expr} {a b : List Stmt} {dc : DenG Bool} {da db : Stm} {pos : Pos} (hc : GT X W c dc) (ha : GSs X W a da) (hb : GSs X W b db) : GS X W (.If c a b pos) (sIf dc da db) := by
  refine PS.imp (ps_if hc ha hb) fun D σ H ⟨g, l, h, S, R, A⟩ => ?_
  refine tG_to S R A fun v h1 g1 H1 x E S1 R1 r1 A1 => ?_
  obtain rfl : v = x := r1
  cases v with
  | true => exact ⟨g1, l, h1, S1, R1, A1⟩
  | false => exact ⟨g1, l, h1, S1, R1, A1⟩
theorem gs_pass {pos : Pos} : GS X W (.Pass pos) sNext := PS.imp ps_pass fun D σ H ⟨g, l, h, S, R, A⟩ => A g H σ Ext.refl R S
theorem gs_break {pos : Pos} : GS X W (.Break pos) sBreak := PS.imp ps_break fun D σ H ⟨g, l, h, S, R, A⟩ => A g H σ Ext.refl R S
theorem gs_continue {pos : Pos} : GS X W (.Continue pos) sCont := PS.imp ps_continue fun D σ H ⟨g, l, h, S, R, A⟩ => A g H σ Ext.refl R S

/-! ### targets -/
inductive TRes where
  | ok (l : Loc) (h : Hv) | exc (e : Ex) (l : Loc) (h : Hv) | fail
abbrev Tg := Val → Loc → Hv → TRes
abbrev Tgs := List Val → Loc → Hv → TRes
def AfterT (K : PySem.W.Frag) (W : WX) (g : Gh) (H : Hp) (Q : L2.St → Hp → Prop) : TRes → Prop
  | .ok l' h' => ∀ g' H' σ', Ext g H g' H' → HR K g' H' h' → SR K g' H' l' σ' → Q σ' H'
  | .exc e l' h' => ∀ g' H' σ' cls d, Ext g H g' H' → HR K g' H' h' → SR K g' H' l' σ' → ER K g' H' e cls d → W cls d σ' H'
  | .fail => False
theorem AfterT.ext {K : PySem.W.Frag} {W : WX} {g g1 : Gh} {H H1 : Hp} {D : L2.St → Hp → Prop} {r : TRes} (E : Ext g H g1 H1) (A : AfterT K W g H D r) : AfterT K W g1 H1 D r := by
  cases r with
  | ok l h => exact fun g' H' x E' => A g' H' x (E.trans E')
  | exc e l h => exact fun g' H' s c d E' => A g' H' s c d (E.trans E')
  | fail => exact A
def tT (K : PySem.W.Frag) (W : WX) (d : Tg) : TG := fun x σ H Q => ∃ g l h v, SR K g H l σ ∧ HR K g H h ∧ VR K g H v x ∧ AfterT K W g H Q (d v l h)
def tTs (K : PySem.W.Frag) (W : WX) (d : Tgs) : TGs := fun x σ H Q => ∃ g l h v, SR K g H l σ ∧ HR K g H h ∧ VRs K g H v x ∧ AfterT K W g H Q (d v l h)
def GG (X : Cx) (W : WX) (tg : Expr) (d : Tg) : Prop := PG X tg (tT X.K W d)
def GGs (X : Cx) (W : WX) (tg : List Expr) (d : Tgs) : Prop := PGs X tg (tTs X.K W d)
theorem PG.imp {X : Cx} {e : Expr} {t t' : TG} (p : PG X e t) (h : ∀ x σ H Q, t' x σ H Q → t x σ H Q) : PG X e t' := ⟨fun pins s σ H v u Q I r q => p.run pins s σ H v u Q I r (h v σ H Q q)⟩
theorem PGs.imp {X : Cx} {e : List Expr} {t t' : TGs} (p : PGs X e t) (h : ∀ x σ H Q, t' x σ H Q → t x σ H Q) : PGs X e t' := ⟨fun pins s σ H v u Q I r q => p.run pins s σ H v u Q I r (h v σ H Q q)⟩
def gName (i : Nat) : Tg := fun v l h => .ok (l.set i (some v)) h
theorem SR.set {K : PySem.W.Frag} {g : Gh} {H : Hp} {l : Loc} {σ : L2.St} {v : Val} {x : V} (S : SR K g H l σ) (i : Nat) (r : VR K g H v x) : SR K g H (l.set i (some v)) (σ.set i (some x)) := by
  refine ⟨by simp [S.len], fun j u e => ?_⟩
  by_cases hj : i = j
  · subst hj
    have hi : i < l.length := by
      have := (List.getElem?_eq_some_iff.mp e).1
      simpa using this
    rw [List.getElem?_set_self hi] at e
    cases e
    exact ⟨x, by rw [List.getElem?_set_self (by rw [← S.len]; exact hi)], r⟩
  · rw [List.getElem?_set_ne hj] at e
    obtain ⟨y, e1, e2⟩ := S.at_ j u e
    exact ⟨y, by rw [List.getElem?_set_ne hj]; exact e1, e2⟩
theorem gg_name (i : Nat) {x : Str} {pos : Pos} (hN : X.N.Nodup) (hi : X.N[i]? = some x := by rfl) (hx : L2.Loc X.env.scope x := by first | exact Or.inl rfl | exact Or.inr rfl) (hf : X.fn x = true ∨ X.env.scope.names.lookup x = some .local := by first | exact .inl rfl | exact .inr rfl) : GG X W (.Name x pos) (gName i) := by
  refine PG.imp (pg_name hN hi hx hf) fun y σ H Q ⟨g, l, h, v, S, R, r, A⟩ => ?_
  exact A g H _ Ext.refl R (S.set i r)
def gsNil : Tgs := fun vs l h => match vs with
  | [] => .ok l h
  | _ => .fail
def TRes.bind (r : TRes) (k : Loc → Hv → TRes) : TRes := match r with
  | .ok l h => k l h
  | .exc e l h => .exc e l h
  | .fail => .fail
@[simp] theorem TRes.bind_ok (l : Loc) (h : Hv) (k : Loc → Hv → TRes) : (TRes.ok l h).bind k = k l h := rfl
@[simp] theorem TRes.bind_exc (e : Ex) (l : Loc) (h : Hv) (k : Loc → Hv → TRes) : (TRes.exc e l h).bind k = .exc e l h := rfl
@[simp] theorem TRes.bind_fail (k : Loc → Hv → TRes) : TRes.fail.bind k = .fail := rfl
def gsCons (t : Tg) (u : Tgs) : Tgs := fun vs l h => match vs with
  | v :: r => (t v l h).bind fun l1 h1 => u r l1 h1
  | [] => .fail
theorem ggs_nil : GGs X W [] gsNil := by
  refine PGs.imp pgs_nil fun y σ H Q ⟨g, l, h, v, S, R, r, A⟩ => ?_
  cases v with
  | nil =>
    simp only [VRs] at r
    exact ⟨r, A g H σ Ext.refl R S⟩
  | cons v vs => exact A.elim
theorem ggs_cons {e : Expr} {es : List Expr} {t : Tg} {u : Tgs} (h1 : GG X W e t) (h2 : GGs X W es u)
    (hs : (assignEach (e :: es) X.env).map (·.2) = assign e X.env :: (assignEach es X.env).map (·.2) := by rfl) : GGs X W (e :: es) (gsCons t u) := by
  refine PGs.imp (pgs_cons h1 h2 hs) fun y σ H Q ⟨g, l, h, v, S, R, r, A⟩ => ?_
  cases v with
  | nil => exact A.elim
  | cons v vs =>
    simp only [VRs] at r
    obtain ⟨x, r', rfl, q1, q2⟩ := r
    refine ⟨x, r', rfl, g, l, h, v, S, R, q1, ?_⟩
    simp only [gsCons] at A
    cases e : t v l h with
    | ok l1 h1 =>
      rw [e] at A
      exact fun g' H' σ' E R' S' => ⟨g', l1, h1, vs, S', R', q2.ext R E, AfterT.ext E A⟩
    | exc x l1 h1 => rw [e] at A; exact A
    | fail => rw [e] at A; exact A
def gTup (n : Nat) (t : Tgs) : Tg := fun v l h => match v with
  | .tup vs => if vs.length = n then t vs l h else .fail
  | _ => .fail
theorem gg_tup {es : List Expr} {k : Nat} {t : Tgs} {n : Nat} {pos : Pos} (hc : X.calm = true) (h : GGs X W es t)
    (hn : (assignEach es X.env).length = n := by rfl) (hst : (assignEach es X.env).findIdx? (·.1) = none := by rfl) : GG X W (.Tuple es k pos) (gTup n t) := by
  refine PG.imp (pg_tup hc h hn hst) fun y σ H Q ⟨g, l, h, v, S, R, r, A⟩ => ?_
  cases v with
  | tup vs =>
    simp only [VR] at r
    obtain ⟨a, xs, rfl, q1, q2⟩ := r
    unfold gTup at A
    simp only at A
    split at A
    · rename_i hl
      exact ⟨a, xs, rfl, q1, by rw [← q2.length]; exact hl, g, l, h, vs, S, R, q2, A⟩
    · exact A.elim
  | _ => exact A.elim
def TRes.s (r : TRes) : SRes := match r with
  | .ok l h => .nx l h
  | .exc e l h => .exc e l h
  | .fail => .fail
@[simp] theorem TRes.s_ok (l : Loc) (h : Hv) : (TRes.ok l h).s = .nx l h := rfl
@[simp] theorem TRes.s_exc (e : Ex) (l : Loc) (h : Hv) : (TRes.exc e l h).s = .exc e l h := rfl
@[simp] theorem TRes.s_fail : TRes.fail.s = .fail := rfl
theorem AfterT.of_s {K : PySem.W.Frag} {W : WX} {g : Gh} {H : Hp} {D : Ends} {r : TRes} (A : AfterS K W g H D r.s) : AfterT K W g H D.nx r := by
  cases r <;> exact A
def sAsg (d : Den) (t : Tg) : Stm := fun l h => (d l h).to l fun v h1 => (t v l h1).s
theorem gs_asg {tg e : Expr} {d : Den} {t : Tg} {pos : Pos} (he : GE X W e d) (hg : GG X W tg t) (hs : swapsWithSole [tg] e pos.line X.env = pure false := by rfl) (hw : swappedStores [tg] e X.env = pure none := by rfl)
    (h1 : (assignEach [tg] X.env).map (·.2) = [assign tg X.env] := by rfl) : GS X W (.Assign [tg] e pos) (sAsg d t) := by
  refine PS.imp (ps_asg he hg hs hw h1) fun D σ H ⟨g, l, h, S, R, A⟩ => ?_
  exact tG_to S R A fun v h1 g1 H1 x E S1 R1 r1 A1 => ⟨g1, l, h1, v, S1, R1, r1, AfterT.of_s A1⟩
theorem gs_set (i : Nat) {x : Str} {e : Expr} {d : Den} {pos pos' : Pos} (he : GE X W e d) (hN : X.N.Nodup) (hi : X.N[i]? = some x := by rfl) (hx : L2.Loc X.env.scope x := by first | exact Or.inl rfl | exact Or.inr rfl)
    (hs : swapsWith e (some (.Name x pos')) pos.line X.env = pure false := by rfl) (hf : X.fn x = true ∨ X.env.scope.names.lookup x = some .local := by first | exact .inl rfl | exact .inr rfl) : GS X W (.Assign [.Name x pos'] e pos) (sAsg d (gName i)) := by
  refine PS.imp (ps_set hN hi hx he hs hf) fun D σ H ⟨g, l, h, S, R, A⟩ => ?_
  exact tG_to S R A fun v h1 g1 H1 x E S1 R1 r1 A1 => A1 g1 H1 _ Ext.refl R1 (S1.set i r1)
end
end GH
set_option Elab.async false
set_option linter.all false
set_option maxRecDepth 100000
set_option maxHeartbeats 1000000
set_option autoImplicit false
/-! dicts whose keys are tuples of any depth. -/
namespace GH
open PySem PySem.Spec PyProof.Rows L2
variable [TheWorld]
section
variable {X : Cx} {pins : List (Addr × Obj)} {σ : L2.St} {g : Gh} {H : Hp} {s : Shared}
mutual
/-- a value is the key that it says -/
theorem keyN_is (I : Inv X pins σ H s) : ∀ {v : Val} {k : NestedKey} {x : V} {u : Value}, keyN v = some k → VR X.K g H v x → RelV x u → NestedIs s.heap k u
  | .non, k, x, u, e, r, ru => by
    simp only [keyN, Option.some.injEq] at e
    simp only [VR] at r
    subst e r
    obtain rfl : u = Value.none := ru
    exact .none
  | .bl b, k, x, u, e, r, ru => by
    simp only [keyN, Option.some.injEq] at e
    simp only [VR] at r
    subst e r
    obtain rfl : u = Value.bool b := ru
    exact .bool rfl
  | .int i, k, x, u, e, r, ru => by
    simp only [keyN, Option.some.injEq] at e
    simp only [VR] at r
    subst e r
    obtain ⟨t, rfl⟩ := ru
    exact .int _ _
  | .str a, k, x, u, e, r, ru => by
    simp only [keyN, Option.some.injEq] at e
    simp only [VR] at r
    subst e r
    obtain ⟨t, rfl⟩ := ru
    exact .text _ _
  | .tup l, k, x, u, e, r, ru => by
    simp only [keyN] at e
    obtain ⟨ks, e1, rfl⟩ := Option.map_eq_some_iff.mp e
    simp only [VR] at r
    obtain ⟨a, xs, rfl, sq, rs⟩ := r
    obtain rfl : u = Value.ref a := ru
    obtain ⟨its, rv, ⟨o, h1, h2, n, h3⟩, _⟩ := I.tuple sq
    exact .tup h1 h2 h3 (keysN_is I e1 rs rv)
  | .lst l, k, x, u, e, r, ru => by simp [keyN] at e
  | .fz l, k, x, u, e, r, ru => by simp [keyN] at e
  | .ref i, k, x, u, e, r, ru => by simp [keyN] at e
theorem keysN_is (I : Inv X pins σ H s) : ∀ {l : List Val} {ks : List NestedKey} {xs : List V} {us : List Value}, keysN l = some ks → VRs X.K g H l xs → Vals xs us → NestedAll s.heap ks us
  | [], ks, xs, us, e, r, ru => by
    simp only [keysN, Option.some.injEq] at e
    simp only [VRs] at r
    subst e r
    cases ru
    exact .nil
  | v :: l, ks, xs, us, e, r, ru => by
    simp only [keysN] at e
    obtain ⟨k, e1, e2⟩ := Option.bind_eq_some_iff.mp e
    obtain ⟨kr, e3, rfl⟩ := Option.map_eq_some_iff.mp e2
    simp only [VRs] at r
    obtain ⟨x, xr, rfl, q1, q2⟩ := r
    cases ru with
    | cons r1 r2 => exact .cons (keyN_is I e1 q1 r1) (keysN_is I e3 q2 r2)
end
end
/-! ### entries, one by one -/
def NR (K : PySem.W.Frag) (g : Gh) (H : Hp) : List (Val × Val) → List NE → List V → Prop
  | [], [], [] => True
  | q :: l, x :: xs, y :: ys => (keyN q.1 = some x.1 ∧ x.1.depth ≤ 8 ∧ VR K g H q.1 (.ref x.2.1) ∧ VR K g H q.2 y ∧ RelV y x.2.2) ∧ NR K g H l xs ys
  | _, _, _ => False
section
variable {K : PySem.W.Frag} {g : Gh} {H : Hp} {a : Addr}
theorem NR.of : ∀ {l : List (Val × Val)} {xs : List NE} {ys : List V}, l.map (fun p => keyN p.1) = xs.map (fun x => some x.1) → (∀ x ∈ xs, x.1.depth ≤ 8) → Vals ys (xs.map (·.2.2)) → VRs K g H (l.map (·.1)) (xs.map fun x => V.ref x.2.1) → VRs K g H (l.map (·.2)) ys → NR K g H l xs ys
  | [], [], ys, _, _, rv, _, _ => by cases rv; exact True.intro
  | [], x :: xs, ys, e, _, _, _, _ => by simp at e
  | q :: l, [], ys, e, _, _, _, _ => by simp at e
  | q :: l, x :: xs, ys, e, d, rv, r1, r2 => by
    simp only [List.map_cons, List.cons.injEq] at e
    simp only [List.map_cons] at rv r1 r2
    cases rv with
    | cons v1 v2 =>
      simp only [VRs] at r1 r2
      obtain ⟨k, kr, z, a1, a2⟩ := r1
      injection z with z1 z2
      subst z1 z2
      obtain ⟨y, yr, z, b1, b2⟩ := r2
      injection z with z1 z2
      subst z1 z2
      exact ⟨⟨e.1, d x (List.mem_cons_self ..), a1, b1, v1⟩, NR.of e.2 (fun x hx => d x (List.mem_cons_of_mem _ hx)) v2 a2 b2⟩
theorem NR.to : ∀ {l : List (Val × Val)} {xs : List NE} {ys : List V}, NR K g H l xs ys → l.map (fun p => keyN p.1) = xs.map (fun x => some x.1) ∧ (∀ x ∈ xs, x.1.depth ≤ 8) ∧ Vals ys (xs.map (·.2.2)) ∧ VRs K g H (l.map (·.1)) (xs.map fun x => V.ref x.2.1) ∧ VRs K g H (l.map (·.2)) ys
  | [], [], [], _ => ⟨rfl, by simp, .nil, VRs.nil, VRs.nil⟩
  | q :: l, x :: xs, y :: ys, ⟨⟨e, d, r1, r2, rv⟩, t⟩ => by
    obtain ⟨h1, h2, h3, h4, h5⟩ := NR.to t
    refine ⟨by simp [e, h1], fun z hz => ?_, .cons rv h3, .cons r1 h4, .cons r2 h5⟩
    rcases List.mem_cons.mp hz with rfl | hz
    · exact d
    · exact h2 z hz
  | [], _ :: _, _, t => t.elim
  | [], [], _ :: _, t => t.elim
  | _ :: _, [], _, t => t.elim
  | _ :: _, _ :: _, [], t => t.elim
theorem NR.keys {X : Cx} {pins : List (Addr × Obj)} {σ : L2.St} {s : Shared} (I : Inv X pins σ H s) : ∀ {l : List (Val × Val)} {xs : List NE} {ys : List V}, NR X.K g H l xs ys → ∀ x ∈ xs, NestedIs s.heap x.1 (.ref x.2.1) ∧ x.1.depth ≤ 8
  | [], [], [], _, x, hx => nomatch hx
  | q :: l, z :: xs, y :: ys, ⟨⟨e, d, r1, r2, rv⟩, t⟩, x, hx => by
    rcases List.mem_cons.mp hx with rfl | hx
    · exact ⟨keyN_is I e r1 rfl, d⟩
    · exact NR.keys I t x hx
  | [], _ :: _, _, t, _, _ => t.elim
  | [], [], _ :: _, t, _, _ => t.elim
  | _ :: _, [], _, t, _, _ => t.elim
  | _ :: _, _ :: _, [], t, _, _ => t.elim
def kEqN (a b : Val) : Bool := decide (keyN a = keyN b)
def dGetN (l : List (Val × Val)) (k : Val) : Option Val := (l.find? fun p => kEqN p.1 k).map (·.2)
def dPutN (l : List (Val × Val)) (k v : Val) : List (Val × Val) := if (l.any fun p => kEqN p.1 k) then l.map (fun p => if kEqN p.1 k then (p.1, v) else p) else l ++ [(k, v)]
theorem kEqN_key {q k : Val} {a b : NestedKey} (e1 : keyN q = some a) (e2 : keyN k = some b) : kEqN q k = decide (a = b) := by
  unfold kEqN
  rw [e1, e2]
  exact decide_eq_decide.mpr (by simp)
theorem atKey_cons (x : NE) (xs : List NE) (k : NestedKey) : atKey (x :: xs) k = if x.1 = k then some (x.2.1, x.2.2) else atKey xs k := by
  unfold atKey
  rw [List.find?_cons]
  by_cases c : x.1 = k
  · rw [decide_eq_true c, if_pos c]; rfl
  · rw [decide_eq_false c, if_neg c]
theorem NR.get {k : Val} {nk : NestedKey} (hk : keyN k = some nk) : ∀ {l : List (Val × Val)} {xs : List NE} {ys : List V}, NR K g H l xs ys → (∀ v, dGetN l k = some v → ∃ p y, atKey xs nk = some p ∧ VR K g H v y ∧ RelV y p.2) ∧ (dGetN l k = none → atKey xs nk = none)
  | [], [], [], _ => ⟨fun v e => by simp [dGetN] at e, fun _ => rfl⟩
  | q :: l, x :: xs, y :: ys, ⟨⟨e, d, r1, r2, rv⟩, t⟩ => by
    have ih := NR.get hk t
    have ek := kEqN_key e hk
    rw [atKey_cons]
    by_cases c : x.1 = nk
    · rw [decide_eq_true c] at ek
      have e1 : dGetN (q :: l) k = some q.2 := by simp [dGetN, ek]
      rw [e1, if_pos c]
      exact ⟨fun v z => by cases z; exact ⟨_, y, rfl, r2, rv⟩, fun z => by cases z⟩
    · rw [decide_eq_false c] at ek
      have e1 : dGetN (q :: l) k = dGetN l k := by simp [dGetN, ek]
      rw [e1, if_neg c]
      exact ih
  | [], _ :: _, _, t => t.elim
  | [], [], _ :: _, t => t.elim
  | _ :: _, [], _, t => t.elim
  | _ :: _, _ :: _, [], t => t.elim
theorem NR.any {k : Val} {nk : NestedKey} (hk : keyN k = some nk) : ∀ {l : List (Val × Val)} {xs : List NE} {ys : List V}, NR K g H l xs ys → (l.any fun p => kEqN p.1 k) = (atKey xs nk).isSome
  | [], [], [], _ => rfl
  | q :: l, x :: xs, y :: ys, ⟨⟨e, d, r1, r2, rv⟩, t⟩ => by
    rw [List.any_cons, kEqN_key e hk, NR.any hk t, atKey_cons]
    by_cases c : x.1 = nk
    · simp [c]
    · simp [c]
  | [], _ :: _, _, t => t.elim
  | [], [], _ :: _, t => t.elim
  | _ :: _, [], _, t => t.elim
  | _ :: _, _ :: _, [], t => t.elim
theorem NR.repl {k v : Val} {nk : NestedKey} {z : V} {u : Value} (hk : keyN k = some nk) (rz : VR K g H v z) (ru : RelV z u) : ∀ {l : List (Val × Val)} {xs : List NE} {ys : List V}, NR K g H l xs ys → ∃ ys', NR K g H (l.map fun p => if kEqN p.1 k then (p.1, v) else p) (xs.map (putAt nk u)) ys'
  | [], [], [], _ => ⟨[], True.intro⟩
  | q :: l, x :: xs, y :: ys, ⟨⟨e, d, r1, r2, rv⟩, t⟩ => by
    obtain ⟨ys', t'⟩ := NR.repl hk rz ru t
    by_cases c : x.1 = nk
    · refine ⟨z :: ys', ?_⟩
      simp only [List.map_cons, kEqN_key e hk, c, decide_true, if_true, putAt]
      exact ⟨⟨by show keyN q.1 = some nk; rw [e, c], by show nk.depth ≤ 8; rw [← c]; exact d, r1, rz, ru⟩, t'⟩
    · refine ⟨y :: ys', ?_⟩
      simp only [List.map_cons, kEqN_key e hk, c, decide_false, Bool.false_eq_true, if_false, putAt]
      exact ⟨⟨e, d, r1, r2, rv⟩, t'⟩
  | [], _ :: _, _, t => t.elim
  | [], [], _ :: _, t => t.elim
  | _ :: _, [], _, t => t.elim
  | _ :: _, _ :: _, [], t => t.elim
theorem NR.snoc {k v : Val} {nk : NestedKey} {b : Addr} {z : V} {u : Value} (hk : keyN k = some nk) (hd : nk.depth ≤ 8) (rk : VR K g H k (.ref b)) (rz : VR K g H v z) (ru : RelV z u) : ∀ {l : List (Val × Val)} {xs : List NE} {ys : List V}, NR K g H l xs ys → NR K g H (l ++ [(k, v)]) (xs ++ [(nk, b, u)]) (ys ++ [z])
  | [], [], [], _ => ⟨⟨hk, hd, rk, rz, ru⟩, True.intro⟩
  | q :: l, x :: xs, y :: ys, ⟨c, t⟩ => ⟨c, NR.snoc hk hd rk rz ru t⟩
  | [], _ :: _, _, t => t.elim
  | [], [], _ :: _, t => t.elim
  | _ :: _, [], _, t => t.elim
  | _ :: _, _ :: _, [], t => t.elim
theorem NR.put {k v : Val} {nk : NestedKey} {b : Addr} {z : V} {u : Value} (hk : keyN k = some nk) (hd : nk.depth ≤ 8) (rk : VR K g H k (.ref b)) (rz : VR K g H v z) (ru : RelV z u) {l : List (Val × Val)} {xs : List NE} {ys : List V} (r : NR K g H l xs ys) : ∃ ys', NR K g H (dPutN l k v) (storedH xs nk b u) ys' := by
  unfold dPutN storedH
  rw [NR.any hk r]
  cases c : (atKey xs nk).isSome with
  | true => simpa using NR.repl hk rz ru r
  | false => exact ⟨_, by simpa using NR.snoc hk hd rk rz ru r⟩
theorem dPutN_len (l : List (Val × Val)) (k v : Val) : (dPutN l k v).length ≤ l.length + 1 := by
  unfold dPutN
  split <;> simp
end
/-! ### the dict itself -/
section
variable {X : Cx} {pins : List (Addr × Obj)} {σ : L2.St} {g : Gh} {H : Hp} {s : Shared} {a : Addr} {l : List (Val × Val)} {xs : List NE} {ys : List V} {A : Around} {E : Value → Shared → Prop}
theorem entN_eq (hw : X.w = TheWorld.w) (x : NE) : entN x = entryOfKey (nestedKind X.prog X.w) x := by
  unfold entN
  rw [← hw]
  rfl
theorem dn_of (I : Inv X pins σ H s) (hw : X.w = TheWorld.w) (e : H a = some (DN a xs)) (nd : (xs.map (·.1)).Nodup) (r : NR X.K g H l xs ys) : s.heap.DictOfH (nestedKind X.prog X.w) a xs := by
  obtain ⟨o, es, ep, h1, h2, h3, h4⟩ := (I.hok a _ e).1
  refine ⟨o, es, ep, h1, h2, h3, ?_, fun x hx => NR.keys I r x hx, nd⟩
  rw [h4]
  exact List.map_congr_left fun x _ => entN_eq hw x
theorem dn_new {h' : Heap} (hw : X.w = TheWorld.w) {H' : Hp} (dd : h'.DictOfH (nestedKind X.prog X.w) a xs) : ObjOk X.prog X.w H' h' a (DN a xs) := by
  obtain ⟨o, es, ep, h1, h2, h3, h4, _, _⟩ := dd
  refine ⟨⟨o, es, ep, h1, h2, h3, ?_⟩, ⟨o, h1⟩, fun p q ⟨o, es, ep, a1, a2, a3, a4⟩ st => ⟨o, es, ep, st _ a1, a2, a3, a4⟩⟩
  rw [h4]
  exact (List.map_congr_left fun x _ => entN_eq hw x).symm
theorem dn_type (I : Inv X pins σ H s) (e : H a = some (DN a xs)) : s.TypeIs (.ref a) "dict" ∧ ∀ b, Value.ref a = .ref b → ∃ ob, s.heap.get? b = some ob ∧ ob.dict = none := by
  obtain ⟨o, es, ep, h1, h2, h3, h4⟩ := (I.hok a _ e).1
  exact ⟨⟨o, h1, h2.1⟩, fun b z => by cases z; exact ⟨o, h1, h2.2.1⟩⟩
theorem dn_getItem {k v : Val} {y : V} {u : Value} {Q : Value → Shared → Prop} (hu : A.units + 200 < cLine) (I : Inv X pins σ H s) (hw : X.w = TheWorld.w) (e : H a = some (DN a xs)) (nd : (xs.map (·.1)).Nodup) (r : NR X.K g H l xs ys)
    {nk : NestedKey} (hk : keyN k = some nk) (hd : nk.depth ≤ 8) {b : Addr} (rk : VR X.K g H k (.ref b)) (hv : dGetN l k = some v) (h : ∀ z w' s', Inv X pins σ H s' → VR X.K g H v z → RelV z w' → Q w' s') : wpAny (model X.prog X.w) A (getItem (.ref a) (.ref b)) Q E s := by
  obtain ⟨p, z, hp, rz, ru⟩ := (NR.get hk r).1 v hv
  exact wpAny_getItem_heap (knd := nestedKind X.prog X.w) (show A.units + 1 + 8 < cLine by omega) ⟨keyN_is I hk rk rfl, hd⟩ (dn_of I hw e nd r) hp (h z _ _ (I.tok _) rz ru)
theorem dn_in {k : Val} {Q : Value → Shared → Prop} (hu : A.units + 200 < cLine) (I : Inv X pins σ H s) (hw : X.w = TheWorld.w) (e : H a = some (DN a xs)) (hs : (a == sysModules) = false) (nd : (xs.map (·.1)).Nodup) (r : NR X.K g H l xs ys)
    {nk : NestedKey} (hk : keyN k = some nk) (hd : nk.depth ≤ 8) {b : Addr} (rk : VR X.K g H k (.ref b)) (h : ∀ s', Inv X pins σ H s' → Q (.bool (l.any fun p => kEqN p.1 k)) s') : wpAny (model X.prog X.w) A (compareOp .In (.ref b) (.ref a)) Q E s := by
  refine wpAny_in_heap (knd := nestedKind X.prog X.w) (show A.units + 1 + 8 < cLine by omega) ⟨keyN_is I hk rk rfl, hd⟩ hs (dn_of I hw e nd r) ?_
  rw [← NR.any hk r]
  exact h _ (I.tok _)
theorem dn_setItem {k v : Val} {y : V} {u : Value} {Q : Unit → Shared → Prop} (hu : A.units + 200 < cLine) (I : Inv X pins σ H s) (hw : X.w = TheWorld.w) (e : H a = some (DN a xs)) (hl : xs.length ≤ sizeLine) (nd : (xs.map (·.1)).Nodup) (r : NR X.K g H l xs ys)
    {nk : NestedKey} (hk : keyN k = some nk) (hd : nk.depth ≤ 8) {b : Addr} (rk : VR X.K g H k (.ref b)) (h : ∀ s', ((storedH xs nk b u).map (·.1)).Nodup → Inv X pins σ (upd H a (DN a (storedH xs nk b u))) s' → Q () s') : wpAny (model X.prog X.w) A (setItem (.ref a) (.ref b) u) Q E s := by
  refine wpAny_setItem_heap (hsz := hl) (knd := nestedKind X.prog X.w) (show A.units + 1 + 8 < cLine by omega) ⟨keyN_is I hk rk rfl, hd⟩ (dn_of I hw e nd r) fun h' dd' hs => ?_
  have nd' : ((storedH xs nk b u).map (·.1)).Nodup := let ⟨_, _, _, _, _, _, _, _, n⟩ := dd'; n
  refine h _ nd' (d_write I (by rw [e]; exact True.intro) hs ?_ (dn_new hw dd'))
  obtain ⟨o, _, _, h1, _⟩ := dd'
  exact ⟨o, h1⟩
end
end GH
set_option Elab.async false
set_option linter.all false
set_option maxRecDepth 100000
set_option maxHeartbeats 1000000
set_option autoImplicit false
/-! Operators, subscripts, lengths, truth, lists and dicts: what they yield on values. -/
namespace GH
open PySem PySem.Spec PyProof.Rows L2
variable [TheWorld]

/-! ### reading sequences -/
def lstOf (h : Hv) : Val → Option (List Val)
  | .lst l => some l
  | .ref i => match h[i]? with
    | some (.lst l) => some l
    | _ => none
  | _ => none
def seqOf (h : Hv) : Val → Option (List Val)
  | .tup l => some l
  | v => lstOf h v
def dicOf (h : Hv) : Val → Option (List (Val × Val))
  | .ref i => match h[i]? with
    | some (.dic l) => some l
    | _ => none
  | _ => none
section
variable {K : PySem.W.Frag} {g : Gh} {H : Hp} {h : Hv} {v : Val} {x : V} {l : List Val}
theorem ref_at (R : HR K g H h) {i : Nat} {o : Ob} {a : Addr} (e : h[i]? = some o) (hm : g.m[i]? = some a) : OR K g H a o := R.obj i o a e hm
theorem lstOf_ok (R : HR K g H h) (r : VR K g H v x) (e : lstOf h v = some l) : ∃ a xs, x = .ref a ∧ H a = some (.lst xs) ∧ VRs K g H l xs := by
  cases v with
  | lst k =>
    simp only [lstOf, Option.some.injEq] at e
    subst e
    simp only [VR] at r
    obtain ⟨a, xs, e, _, s, r⟩ := r
    exact ⟨a, xs, e, s, r⟩
  | ref i =>
    simp only [lstOf] at e
    split at e
    · rename_i l' hl
      cases e
      simp only [VR] at r
      obtain ⟨a, rfl, hm⟩ := r
      obtain ⟨xs, e1, e2⟩ := ref_at R hl hm
      exact ⟨a, xs, rfl, e1, e2⟩
    · cases e
  | _ => simp [lstOf] at e
theorem seqOf_ok (R : HR K g H h) (r : VR K g H v x) (e : seqOf h v = some l) : ∃ a xs, x = .ref a ∧ (SqL K H a xs ∨ SqT K H a xs) ∧ VRs K g H l xs := by
  cases v with
  | tup k =>
    simp only [seqOf, Option.some.injEq] at e
    subst e
    simp only [VR] at r
    obtain ⟨a, xs, e, s, r⟩ := r
    exact ⟨a, xs, e, .inr s, r⟩
  | lst k => obtain ⟨a, xs, e, s, r⟩ := lstOf_ok R r (by simpa [seqOf] using e); exact ⟨a, xs, e, .inl (SqL.of s), r⟩
  | ref i => obtain ⟨a, xs, e, s, r⟩ := lstOf_ok R r (by simpa [seqOf] using e); exact ⟨a, xs, e, .inl (SqL.of s), r⟩
  | _ => simp [seqOf, lstOf] at e
theorem dicOf_ok (R : HR K g H h) (r : VR K g H v x) {l : List (Val × Val)} (e : dicOf h v = some l) : ∃ i a ks, v = .ref i ∧ x = .ref a ∧ g.m[i]? = some a ∧ h[i]? = some (.dic l) ∧ H a = some (.dK ks) ∧ DR K g H l ks := by
  cases v with
  | ref i =>
    simp only [dicOf] at e
    split at e
    · rename_i l' hl
      cases e
      simp only [VR] at r
      obtain ⟨a, rfl, hm⟩ := r
      obtain ⟨ks, e1, e2⟩ := ref_at R hl hm
      exact ⟨i, a, ks, rfl, rfl, hm, hl, e1, e2⟩
    · cases e
  | _ => simp [dicOf] at e
/-- an object of ours is written -/
theorem HR.write (R : HR K g H h) {i : Nat} {a : Addr} {ob : Ob} {o' : HO} (hm : g.m[i]? = some a) (ok : Ext g H g (upd H a o') → OR K g (upd H a o') a ob) (nt' : ∀ ps, o' ≠ .tbl ps := by intro ps z; cases z) :
    Ext g H g (upd H a o') ∧ HR K g (upd H a o') (h.set i ob) := by
  have ha : a ∈ g.m := List.mem_of_getElem? hm
  have E : Ext g H g (upd H a o') := by
    refine ⟨⟨[], by simp, by simp⟩, rfl, fun b u e _ hb => ?_, fun b u e nt => ?_⟩
    · rw [upd_ne (show b ≠ a from fun z => hb (by rw [z]; exact ha))]; exact e
    · by_cases hb : b = a
      · subst hb; exact ⟨_, upd_same, nt'⟩
      · exact ⟨u, by rw [upd_ne hb]; exact e, nt⟩
  refine ⟨E, by simp [R.len], R.nd, R.dis, fun b hb => ?_, fun j o b e1 e2 => ?_⟩
  · obtain ⟨ob, e, mu⟩ := R.al b hb
    exact ⟨ob, by rw [upd_ne (show b ≠ a from fun z => R.dis a ha (by rw [← z]; exact hb))]; exact e, mu⟩
  · by_cases hj : i = j
    · subst hj
      have hi : i < h.length := by rw [← R.len]; exact (List.getElem?_eq_some_iff.mp hm).1
      rw [List.getElem?_set_self hi] at e1
      cases e1
      rw [hm] at e2
      cases e2
      exact ok E
    · rw [List.getElem?_set_ne hj] at e1
      have hba : b ≠ a := by
        rintro rfl
        have h1 := (List.getElem?_eq_some_iff.mp hm)
        have h2 := (List.getElem?_eq_some_iff.mp e2)
        obtain ⟨l1, p1⟩ := h1
        obtain ⟨l2, p2⟩ := h2
        exact hj ((List.getElem_inj R.nd).mp (p1.trans p2.symm))
      have q := R.obj j o b e1 e2
      cases o with
      | lst l => obtain ⟨xs, e, r⟩ := q; exact ⟨xs, by rw [upd_ne hba]; exact e, r.ext R E⟩
      | dic l => obtain ⟨xs, e, r⟩ := q; exact ⟨xs, by rw [upd_ne hba]; exact e, r.1, r.2.ext R E⟩
      | ins c f => obtain ⟨dx, gs, e, r⟩ := q; exact ⟨dx, gs, by rw [upd_ne hba]; exact e, r.1, r.2.ext R E⟩
      | dn l => obtain ⟨xs, ys, e, p, r1, r2⟩ := q; exact ⟨xs, ys, by rw [upd_ne hba]; exact e, p, r1.ext R E, r2.ext R E⟩
      | tbl t => exact ⟨q.1, q.2.stay (fun ps e => by rw [upd_ne hba]; exact e) (fun c o e nt hn => ⟨by rw [upd_ne (fun z => hn (.inl (by rw [z]; exact ha)))]; exact e, hn⟩)⟩
end

/-! ### arithmetic -/
def big64 (i : Int) : Bool := decide (-(2 ^ 64) < i) && decide (i < 2 ^ 64)
def vAdd (v u : Val) (h : Hv) : Res Val := match v, u with
  | .int i, .int j => .ok (.int (i + j)) h
  | .str a, .str b => if a.length + b.length ≤ lineN then .ok (.str (a ++ b)) h else .fail
  | .tup a, .tup b => if a.length + b.length ≤ lineN then .ok (.tup (a ++ b)) h else .fail
  | v, u => match lstOf h v, lstOf h u with
    | some a, some b => if a.length + b.length ≤ lineN then .ok (.lst (a ++ b)) h else .fail
    | _, _ => .fail
def vSub (v u : Val) (h : Hv) : Res Val := match v, u with
  | .int i, .int j => .ok (.int (i - j)) h
  | _, _ => .fail
def vMul (v u : Val) (h : Hv) : Res Val := match v, u with
  | .int i, .int j => if big64 i || big64 j then .ok (.int (i * j)) h else .fail
  | .lst l, .int k => if -(2 ^ 63) ≤ k ∧ k < 2 ^ 63 ∧ l.length * k.toNat ≤ lineN then .ok (.lst (List.replicate k.toNat l).flatten) h else .fail
  | _, _ => .fail
def vDiv (v u : Val) (h : Hv) : Res Val := match v, u with
  | .int i, .int j => if 0 < j ∧ j < 1073741824 then .ok (.int (i / j)) h else .fail
  | _, _ => .fail
def vMod (v u : Val) (h : Hv) : Res Val := match v, u with
  | .int i, .int j => if 0 < j then .ok (.int (i % j)) h else .fail
  | _, _ => .fail
def vPow (v u : Val) (h : Hv) : Res Val := match v, u with
  | .int i, .int j => if 0 ≤ j ∧ j ≤ 1000000 ∧ i.natAbs < 2 ^ 64 then .ok (.int (i ^ j.toNat)) h else .fail
  | _, _ => .fail
def vCmpI (p : Int → Int → Bool) (v u : Val) (h : Hv) : Res Val := match v, u with
  | .int i, .int j => .ok (.bl (p i j)) h
  | _, _ => .fail
section
variable {X : Cx}
theorem sOf_append (a b : List Nat) : sOf a ++ sOf b = sOf (a ++ b) := by
  show (⟨(sOf a).cps ++ (sOf b).cps⟩ : Str) = _
  simp [sOf]
theorem og_add : OpG X (binaryOp .Add) vAdd := by
  refine ⟨_, op_add.or (op_add_str.or (op_catA.or op_cat)), fun W g H h σ v u x y Q R rv ru A => ?_⟩
  have lists : ∀ (A : After X.K W (vr X.K) σ g H Q (match lstOf h v, lstOf h u with
    | some a, some b => if a.length + b.length ≤ lineN then .ok (.lst (a ++ b)) h else .fail
    | _, _ => .fail)), rCat x y H Q := by
    intro A
    split at A
    · rename_i a b e1 e2
      split at A
      · rename_i hl
        obtain ⟨p, xs, rfl, s1, r1⟩ := lstOf_ok R rv e1
        obtain ⟨q, ys, rfl, s2, r2⟩ := lstOf_ok R ru e2
        refine ⟨p, q, xs, ys, rfl, rfl, s1, s2, by rw [← r1.length, ← r2.length]; exact line_ok hl, fun b np => ?_⟩
        obtain ⟨E, R1⟩ := R.grow (o := .lst (xs ++ ys)) np
        refine A g _ (.ref b) E R1 ?_
        simp only [VR]
        exact ⟨b, _, rfl, R.fresh np, upd_same, (r1.append r2).ext R E⟩
      · exact A.elim
    · exact A.elim
  unfold vAdd at A
  split at A
  · simp only [VR] at rv ru
    subst rv ru
    exact .inl ⟨_, _, rfl, rfl, A g H _ Ext.refl R (by simp only [VR])⟩
  · rename_i a b
    simp only [VR] at rv ru
    subst rv ru
    split at A
    · rename_i hl
      exact .inr (.inl ⟨_, _, rfl, rfl, by rw [sOf_len, sOf_len]; exact line_ok hl, A g H _ Ext.refl R (by simp only [VR]; rw [sOf_append])⟩)
    · exact A.elim
  · rename_i a b
    split at A
    · rename_i hl
      simp only [VR] at rv ru
      obtain ⟨p, xs, rfl, s1, r1⟩ := rv
      obtain ⟨q, ys, rfl, s2, r2⟩ := ru
      refine .inr (.inr (.inl ⟨p, q, xs, ys, rfl, rfl, s1, s2, by rw [← r1.length, ← r2.length]; exact line_ok hl, fun e => ?_, fun e e' => ?_, fun _ _ b np => ?_⟩))
      · subst e
        refine A g H _ Ext.refl R ?_
        simp only [VR]
        exact ⟨q, ys, rfl, s2, by simpa using r1.append r2⟩
      · subst e'
        refine A g H _ Ext.refl R ?_
        simp only [VR]
        exact ⟨p, xs, rfl, s1, by simpa using r1.append r2⟩
      · obtain ⟨E, R1⟩ := R.grow (o := .tup (xs ++ ys)) np
        refine A g _ (.ref b) E R1 ?_
        simp only [VR]
        exact ⟨b, _, rfl, SqT.of upd_same, (r1.append r2).ext R E⟩
    · exact A.elim
  · exact .inr (.inr (.inr (lists A)))
theorem og_int {op : Value → Value → Sem Value} {C : Int → Int → Prop} {f : Int → Int → V} {d : Val → Val → Hv → Res Val} (ho : OpR X op (rI C f))
    (hd : ∀ (W : WX) (g : Gh) (H : Hp) (h : Hv) (σ : L2.St) (v u : Val) (Q : VK), HR X.K g H h → After X.K W (vr X.K) σ g H Q (d v u h) → ∃ i j, v = .int i ∧ u = .int j ∧ C i j ∧ Q (f i j) H) : OpG X op d := by
  refine ⟨_, ho, fun W g H h σ v u x y Q R rv ru A => ?_⟩
  obtain ⟨i, j, rfl, rfl, c, q⟩ := hd W g H h σ v u Q R A
  simp only [VR] at rv ru
  exact ⟨i, j, rv, ru, c, q⟩
theorem og_int0 {op : Value → Value → Sem Value} {f : Int → Int → V} {d : Val → Val → Hv → Res Val} (ho : OpR X op (rI0 f))
    (hd : ∀ (W : WX) (g : Gh) (H : Hp) (h : Hv) (σ : L2.St) (v u : Val) (Q : VK), HR X.K g H h → After X.K W (vr X.K) σ g H Q (d v u h) → ∃ i j, v = .int i ∧ u = .int j ∧ Q (f i j) H) : OpG X op d := by
  refine ⟨_, ho, fun W g H h σ v u x y Q R rv ru A => ?_⟩
  obtain ⟨i, j, rfl, rfl, q⟩ := hd W g H h σ v u Q R A
  simp only [VR] at rv ru
  exact ⟨i, j, rv, ru, q⟩
theorem og_sub : OpG X (binaryOp .Sub) vSub := og_int0 op_sub fun W g H h σ v u Q R A => by
  unfold vSub at A
  split at A
  · exact ⟨_, _, rfl, rfl, A g H _ Ext.refl R (by simp only [VR])⟩
  · exact A.elim
theorem og_div : OpG X (binaryOp .FloorDiv) vDiv := og_int op_fdiv fun W g H h σ v u Q R A => by
  unfold vDiv at A
  split at A
  · split at A
    · rename_i c
      exact ⟨_, _, rfl, rfl, c, A g H _ Ext.refl R (by simp only [VR])⟩
    · exact A.elim
  · exact A.elim
theorem og_mod : OpG X (binaryOp .Mod) vMod := og_int op_mod fun W g H h σ v u Q R A => by
  unfold vMod at A
  split at A
  · split at A
    · rename_i c
      exact ⟨_, _, rfl, rfl, c, A g H _ Ext.refl R (by simp only [VR])⟩
    · exact A.elim
  · exact A.elim
theorem og_pow : OpG X (binaryOp .Pow) vPow := og_int op_pow fun W g H h σ v u Q R A => by
  unfold vPow at A
  split at A
  · split at A
    · rename_i c
      exact ⟨_, _, rfl, rfl, c, A g H _ Ext.refl R (by simp only [VR])⟩
    · exact A.elim
  · exact A.elim
theorem big64_ok {i : Int} (h : big64 i = true) : -(2 ^ 64) < i ∧ i < 2 ^ 64 := by
  simpa [big64] using h
theorem og_mul : OpG X (binaryOp .Mult) vMul := by
  refine ⟨_, op_mul.or op_rep, fun W g H h σ v u x y Q R rv ru A => ?_⟩
  unfold vMul at A
  split at A
  · split at A
    · rename_i c
      simp only [VR] at rv ru
      subst rv ru
      refine .inl ⟨_, _, rfl, rfl, ?_, A g H _ Ext.refl R (by simp only [VR])⟩
      rcases Bool.or_eq_true_iff.mp c with c | c
      · exact .inl (big64_ok c)
      · exact .inr (big64_ok c)
    · exact A.elim
  · rename_i l k
    split at A
    · rename_i c
      simp only [VR] at rv ru
      subst ru
      obtain ⟨p, xs, rfl, n, s1, r1⟩ := rv
      refine .inr ⟨p, k, xs, rfl, rfl, s1, c.1, c.2.1, by rw [← r1.length]; exact line_ok c.2.2, fun b np => ?_⟩
      obtain ⟨E, R1⟩ := R.grow (o := .lst (List.replicate k.toNat xs).flatten) np
      refine A g _ (.ref b) E R1 ?_
      simp only [VR]
      refine ⟨b, _, rfl, R.fresh np, upd_same, ?_⟩
      have rep : ∀ n : Nat, VRs X.K g H (List.replicate n l).flatten (List.replicate n xs).flatten := by
        intro n
        induction n with
        | zero => simpa using VRs.nil
        | succ n ih => rw [List.replicate_succ, List.replicate_succ, List.flatten_cons, List.flatten_cons]; exact r1.append ih
      exact (rep _).ext R E
    · exact A.elim
  · exact A.elim
theorem og_cmpI {op : CmpOp} {p : Int → Int → Bool} (ho : OpR X (compareOp op) (rI0 fun i j => .bl (p i j))) : OpG X (compareOp op) (vCmpI p) := og_int0 ho fun W g H h σ v u Q R A => by
  unfold vCmpI at A
  split at A
  · exact ⟨_, _, rfl, rfl, A g H _ Ext.refl R (by simp only [VR])⟩
  · exact A.elim
abbrev vLt := vCmpI fun i j => decide (i < j)
abbrev vLe := vCmpI fun i j => decide (i ≤ j)
abbrev vGt := vCmpI fun i j => decide (j < i)
abbrev vGe := vCmpI fun i j => decide (j ≤ i)
theorem og_lt : OpG X (compareOp .Lt) vLt := og_cmpI op_lt
theorem og_le : OpG X (compareOp .LtE) vLe := og_cmpI op_le
theorem og_gt : OpG X (compareOp .Gt) vGt := og_cmpI op_gt
theorem og_ge : OpG X (compareOp .GtE) vGe := og_cmpI op_ge
def isNon : Val → Bool
  | .non => true
  | _ => false
def vIsN (v u : Val) (h : Hv) : Res Val := match u with
  | .non => .ok (.bl (isNon v)) h
  | _ => .fail
def vNotN (v u : Val) (h : Hv) : Res Val := match u with
  | .non => .ok (.bl (!isNon v)) h
  | _ => .fail
theorem VR.non_iff {K : PySem.W.Frag} {g : Gh} {H : Hp} {v : Val} {x : V} (r : VR K g H v x) : decide (x = .non) = isNon v := by
  cases v <;> simp only [VR] at r <;> first | (subst r; rfl) | (obtain ⟨_, _, _, rfl, _⟩ := r; rfl) | (obtain ⟨_, _, rfl, _⟩ := r; rfl) | (obtain ⟨_, rfl, _⟩ := r; rfl)
theorem og_isN : OpG X (compareOp .Is) vIsN := by
  refine ⟨_, op_isN, fun W g H h σ v u x y Q R rv ru A => ?_⟩
  unfold vIsN at A
  split at A
  · simp only [VR] at ru
    refine ⟨ru, ?_⟩
    rw [rv.non_iff]
    exact A g H _ Ext.refl R (by simp only [VR])
  · exact A.elim
theorem og_notN : OpG X (compareOp .IsNot) vNotN := by
  refine ⟨_, op_notN, fun W g H h σ v u x y Q R rv ru A => ?_⟩
  unfold vNotN at A
  split at A
  · simp only [VR] at ru
    refine ⟨ru, ?_⟩
    rw [rv.non_iff]
    exact A g H _ Ext.refl R (by simp only [VR])
  · exact A.elim
/-- -e -/
def dNeg (d : Den) : Den := fun l h => (d l h).bind fun v h1 => match v with
  | .int i => .ok (.int (-i)) h1
  | _ => .fail
theorem ge_neg {W : WX} {a : Expr} {d : Den} {pos : Pos} (ha : GE X W a d) : GE X W (.UnaryOp .USub a pos) (dNeg d) := by
  refine PE.imp (pe_un un_neg ha) fun σ H Q ⟨g, l, h, S, R, A⟩ => ?_
  refine tG_of S R A fun v h1 g1 H1 x E S1 R1 r1 A1 => ?_
  cases v with
  | int i =>
    simp only [VR] at r1
    exact ⟨i, r1, A1 g1 H1 _ Ext.refl R1 (by simp only [VR])⟩
  | _ => exact A1.elim

/-! ### dicts as lists of pairs -/
def kEq : Val → Val → Bool
  | .int i, .int j => decide (i = j)
  | .str a, .str b => decide (a = b)
  | _, _ => false
def dGet (l : List (Val × Val)) (k : Val) : Option Val := (l.find? fun p => kEq p.1 k).map (·.2)
def dPut (l : List (Val × Val)) (k v : Val) : List (Val × Val) := if (l.any fun p => kEq p.1 k) then l.map (fun p => if kEq p.1 k then (p.1, v) else p) else l ++ [(k, v)]
def dDrop (l : List (Val × Val)) (k : Val) : List (Val × Val) := l.filter fun p => !kEq p.1 k
theorem kEq_key {a b : Val} {ka kb : Key} (ha : keyOf a = some ka) (hb : keyOf b = some kb) : kEq a b = decide (ka = kb) := by
  cases a <;> simp only [keyOf, Option.some.injEq, reduceCtorEq] at ha <;> cases b <;> simp only [keyOf, Option.some.injEq, reduceCtorEq] at hb <;> subst ha hb
  · rename_i i j
    simp only [kEq]
    by_cases e : i = j
    · subst e; simp
    · rw [decide_eq_false e, decide_eq_false (fun z => e (Sum.inl.inj z))]
  · simp [kEq]
  · simp [kEq]
  · rename_i i j
    simp only [kEq]
    by_cases e : i = j
    · subst e; simp
    · rw [decide_eq_false e, decide_eq_false (fun z => e (sOf_inj (Sum.inr.inj z)))]
section
variable {K : PySem.W.Frag} {g : Gh} {H : Hp}
theorem DR.nil : DR K g H [] [] := ⟨rfl, VRs.nil⟩
theorem DR.inv {l : List (Val × Val)} {p : Val × Val} {ks : List (Key × V)} (r : DR K g H (p :: l) ks) : ∃ q ks', ks = q :: ks' ∧ keyOf p.1 = some q.1 ∧ VR K g H p.2 q.2 ∧ DR K g H l ks' := by
  obtain ⟨e, r⟩ := r
  cases ks with
  | nil => simp at e
  | cons q ks' =>
    simp only [List.map_cons, List.cons.injEq] at e
    simp only [List.map_cons, VRs] at r
    obtain ⟨x, r', e1, q1, q2⟩ := r
    cases e1
    exact ⟨q, ks', rfl, e.1, q1, e.2, q2⟩
theorem DR.cons {l : List (Val × Val)} {p : Val × Val} {ks : List (Key × V)} {q : Key × V} (e : keyOf p.1 = some q.1) (r : VR K g H p.2 q.2) (t : DR K g H l ks) : DR K g H (p :: l) (q :: ks) :=
  ⟨by simp [e, t.1], by simp only [List.map_cons]; exact .cons r t.2⟩
theorem DR.nilInv {ks : List (Key × V)} (r : DR K g H [] ks) : ks = [] := by
  obtain ⟨e, _⟩ := r
  cases ks with
  | nil => rfl
  | cons q ks' => simp at e
theorem DR.length : ∀ {l : List (Val × Val)} {ks : List (Key × V)}, DR K g H l ks → l.length = ks.length
  | [], ks, r => by rw [r.nilInv]; rfl
  | p :: l, ks, r => by obtain ⟨q, ks', rfl, _, _, t⟩ := r.inv; simp [DR.length t]
theorem DR.get {k : Val} {kk : Key} (hk : keyOf k = some kk) : ∀ {l : List (Val × Val)} {ks : List (Key × V)}, DR K g H l ks → (∀ v, dGet l k = some v → ∃ x, valV ks kk = some x ∧ VR K g H v x) ∧ (dGet l k = none → valV ks kk = none)
  | [], ks, r => by rw [r.nilInv]; exact ⟨fun v e => by simp [dGet] at e, fun _ => rfl⟩
  | p :: l, ks, r => by
    obtain ⟨q, ks', rfl, e, rv, t⟩ := r.inv
    have ih := DR.get hk t
    have ek := kEq_key e hk
    by_cases c : q.1 = kk
    · rw [decide_eq_true c] at ek
      have e1 : dGet (p :: l) k = some p.2 := by simp [dGet, ek]
      rw [e1, valV_pos c]
      exact ⟨fun v z => by cases z; exact ⟨_, rfl, rv⟩, fun z => by cases z⟩
    · rw [decide_eq_false c] at ek
      have e1 : dGet (p :: l) k = dGet l k := by simp [dGet, ek]
      rw [e1, valV_neg c]
      exact ih
theorem DR.any {k : Val} {kk : Key} (hk : keyOf k = some kk) : ∀ {l : List (Val × Val)} {ks : List (Key × V)}, DR K g H l ks → (l.any fun p => kEq p.1 k) = (ks.any fun kv => decide (kv.1 = kk))
  | [], ks, r => by rw [r.nilInv]; rfl
  | p :: l, ks, r => by
    obtain ⟨q, ks', rfl, e, rv, t⟩ := r.inv
    simp only [List.any_cons, kEq_key e hk, DR.any hk t]
theorem DR.repl {k v : Val} {kk : Key} {x : V} (hk : keyOf k = some kk) (rx : VR K g H v x) : ∀ {l : List (Val × Val)} {ks : List (Key × V)}, DR K g H l ks → DR K g H (l.map fun p => if kEq p.1 k then (p.1, v) else p) (ks.map fun kv => if kv.1 = kk then (kv.1, x) else kv)
  | [], ks, r => by rw [r.nilInv]; exact DR.nil
  | p :: l, ks, r => by
    obtain ⟨q, ks', rfl, e, rv, t⟩ := r.inv
    simp only [List.map_cons, kEq_key e hk]
    by_cases c : q.1 = kk
    · simp only [c, decide_true, if_true]
      exact .cons (by show keyOf p.1 = some kk; rw [e, c]) rx (DR.repl hk rx t)
    · simp only [c, decide_false, if_false, Bool.false_eq_true]
      exact .cons e rv (DR.repl hk rx t)
theorem DR.append {l l' : List (Val × Val)} {ks ks' : List (Key × V)} (a : DR K g H l ks) (b : DR K g H l' ks') : DR K g H (l ++ l') (ks ++ ks') :=
  ⟨by simp [a.1, b.1], by simpa using a.2.append b.2⟩
theorem DR.put {k v : Val} {kk : Key} {x : V} {l : List (Val × Val)} {ks : List (Key × V)} (r : DR K g H l ks) (hk : keyOf k = some kk) (rx : VR K g H v x) : DR K g H (dPut l k v) (putK ks kk x) := by
  unfold dPut putK
  rw [DR.any hk r]
  by_cases c : (ks.any fun kv => decide (kv.1 = kk)) = true
  · rw [if_pos c, if_pos c]
    exact DR.repl hk rx r
  · rw [if_neg c, if_neg c]
    exact r.append (.cons hk rx .nil)
theorem DR.drop {k : Val} {kk : Key} (hk : keyOf k = some kk) : ∀ {l : List (Val × Val)} {ks : List (Key × V)}, DR K g H l ks → DR K g H (dDrop l k) (dropK ks kk)
  | [], ks, r => by rw [r.nilInv]; exact DR.nil
  | p :: l, ks, r => by
    obtain ⟨q, ks', rfl, e, rv, t⟩ := r.inv
    unfold dDrop dropK
    have ih := DR.drop hk t
    unfold dDrop dropK at ih
    rw [List.filter_cons, List.filter_cons, kEq_key e hk]
    by_cases c : q.1 = kk
    · rw [if_neg (by simp [c]), if_neg (by simp [c])]
      exact ih
    · rw [if_pos (by simp [c]), if_pos (by simp [c])]
      exact .cons e rv ih
theorem key_V {v : Val} {x : V} {k : Key} (r : VR K g H v x) (e : keyOf v = some k) : x = kV k := by
  cases v <;> simp only [keyOf, Option.some.injEq, reduceCtorEq] at e <;> subst e <;> simp only [VR] at r <;> exact r
end

/-! ### a[b] -/
/-- the item at an index of any sign -/
def nth {α : Type} (l : List α) (i : Int) : Option α := if 0 ≤ i then l[i.toNat]? else if -(l.length : Int) ≤ i then l[(i + l.length).toNat]? else none
theorem nth_atI {α : Type} {l : List α} {i : Int} {v : α} (h : nth l i = some v) : atI l i = some v := by
  unfold nth at h
  unfold atI ixN
  split at h
  · rename_i h0
    have hl := (List.getElem?_eq_some_iff.mp h).1
    rw [if_pos h0, if_pos (by omega)]
    exact h
  · rename_i h0
    split at h
    · rename_i h1
      rw [if_neg h0, if_pos h1]
      exact h
    · cases h
theorem VRs.nth {K : PySem.W.Frag} {g : Gh} {H : Hp} {l : List Val} {xs : List V} {i : Int} {v : Val} (r : VRs K g H l xs) (h : GH.nth l i = some v) : ∃ x, atI xs i = some x ∧ VR K g H v x := by
  have hl := r.length
  unfold GH.nth at h
  split at h
  · rename_i h0
    obtain ⟨x, e, q⟩ := r.get h
    exact ⟨x, nth_atI (by unfold GH.nth; rw [if_pos h0]; exact e), q⟩
  · rename_i h0
    split at h
    · rename_i h1
      obtain ⟨x, e, q⟩ := r.get h
      exact ⟨x, nth_atI (by unfold GH.nth; rw [if_neg h0, if_pos (by omega), ← hl]; exact e), q⟩
    · cases h
def vIx (v u : Val) (h : Hv) : Res Val := match v with
  | .str s => match u with
    | .int i => if s.length ≤ lineN then (match nth s i with
      | some c => .ok (.str [c]) h
      | none => .fail) else .fail
    | _ => .fail
  | v => match seqOf h v with
    | some l => (match u with
      | .int i => (match nth l i with
        | some w => .ok w h
        | none => .fail)
      | _ => .fail)
    | none => match dicOf h v, keyOf u with
      | some l, some _ => (match dGet l u with
        | some w => .ok w h
        | none => .fail)
      | _, _ => .fail
def rIxD : R2 := fun x y H Q => ∃ a v, x = .ref a ∧ DGet H a y (some v) ∧ Q v H
theorem ix_dict (hu : X.A.units + 1 < cLine) : IxR X rIxD := by
  intro value slice pins s σ H x y v u Q I rx ry h hs
  obtain ⟨a, z, rfl, d, q⟩ := h
  obtain rfl : v = Value.ref a := rx
  exact tail_any (dict_typeIs I d) PySem.F.slot_dict_getitem.lookup (d_getItem hu I d ry fun w' s' I' r' => ⟨z, H, I', r', q⟩) hs
theorem vIx_ok {W : WX} {g : Gh} {H : Hp} {h : Hv} {σ : L2.St} {v u : Val} {x y : V} {Q : VK} (R : HR X.K g H h) (rv : VR X.K g H v x) (ru : VR X.K g H u y) (A : After X.K W (vr X.K) σ g H Q (vIx v u h)) : rIx X.K x y H Q ∨ rIxD x y H Q := by
  unfold vIx at A
  split at A
  · rename_i s
    split at A
    · rename_i i
      split at A
      · rename_i hl
        split at A
        · rename_i c e
          simp only [VR] at rv ru
          subst rv ru
          exact .inl (.inr (.inr ⟨_, i, c, rfl, rfl, by rw [sOf_len]; exact line_ok hl, by simpa [sOf] using nth_atI e, A g H _ Ext.refl R (by simp only [VR]; rfl)⟩))
        · exact A.elim
      · exact A.elim
    · exact A.elim
  · rename_i hns
    split at A
    · rename_i l hl
      obtain ⟨a, xs, rfl, s, r⟩ := seqOf_ok R rv hl
      split at A
      · rename_i i
        split at A
        · rename_i w e
          simp only [VR] at ru
          subst ru
          obtain ⟨z, e', rz⟩ := VRs.nth r e
          rcases s with s | s
          · exact .inl (.inl ⟨a, xs, i, z, rfl, rfl, s, e', A g H _ Ext.refl R rz⟩)
          · exact .inl (.inr (.inl ⟨a, xs, i, z, rfl, rfl, s, e', A g H _ Ext.refl R rz⟩))
        · exact A.elim
      · exact A.elim
    · split at A
      · rename_i l k hl hk
        split at A
        · rename_i w e
          obtain ⟨i, a, ks, rfl, rfl, hm, hi, ha, d⟩ := dicOf_ok R rv hl
          obtain ⟨z, e', rz⟩ := (DR.get hk d).1 w e
          refine .inr ⟨a, z, rfl, ?_, A g H _ Ext.refl R rz⟩
          rw [key_V ru hk, ← e']
          exact DGet.k ha
        · exact A.elim
      · exact A.elim
theorem ge_ix {W : WX} {a b : Expr} {da db : Den} {pos : Pos} (hu : X.A.units + 1 < cLine) (ha : GE X W a da) (hb : GE X W b db) (hs : PlainIx b := by exact fun _ _ => rfl) : GE X W (.Subscript a b pos) (dBin vIx da db) := by
  refine PE.imp (pe_ix (ix_seq.or (ix_dict hu)) ha hb hs) fun σ H Q ⟨g, l, h, S, R, A⟩ => ?_
  refine tG_of S R A fun v h1 g1 H1 x E S1 R1 r1 A1 => ?_
  refine tG_of S1 R1 A1 fun u h2 g2 H2 y E2 S2 R2 r2 A2 => ?_
  exact vIx_ok R2 (r1.ext R1 E2) r2 A2

/-! ### len, truth -/
def vLen (v : Val) (h : Hv) : Res Val := match v with
  | .str s => if s.length ≤ lineN then .ok (.int s.length) h else .fail
  | v => match seqOf h v with
    | some l => .ok (.int l.length) h
    | none => match dicOf h v with
      | some l => .ok (.int l.length) h
      | none => .fail
theorem call_lenG : CallR X (.builtin "len") (fun xs H Q => (∃ x n, xs = [x] ∧ LenV X.K x H n ∧ Q (.int n) H) ∨ ∃ a kvs, xs = [.ref a] ∧ Rd H a (.dK kvs) ∧ Q (.int kvs.length) H) := by
  intro pins s σ H xs us Q I r h
  rcases h with h | ⟨a, kvs, rfl, e, q⟩
  · exact call_len pins s σ H xs us Q I r h
  · obtain ⟨u, rfl, ru⟩ := vals1 r
    obtain rfl : u = Value.ref a := ru
    exact d_len I e fun t s' I' => ⟨.int kvs.length, H, I', ⟨_, rfl⟩, q⟩
def dLen (d : Den) : Den := fun l h => (d l h).bind vLen
theorem ge_len {W : WX} {e : Expr} {d : Den} {x : Str} {p pos : Pos} (he : GE X W e d) (hm : X.mg x = none) (hg : Gl X x := by rfl) (hv : bootBuiltins x = some (.builtin "len") := by decide +kernel) (hn : x ≠ "__name__" := by decide +kernel) (hdb : (x == ("__debug__" : Str)) = false := by decide +kernel)
    (hst : starEach [e] X.env = (false, eval e X.env) :: starEach [] X.env := by rfl) (hpl : (backTo pos (starEach [] X.env)).any (·.1) = false := by rfl) : GE X W (.Call (.Name x p) [e] [] pos) (dLen d) := by
  refine PE.imp (pe_callB call_lenG hg hm hv (pa_cons he pa_nil hst) hn hdb hst hpl) fun σ H Q ⟨g, l, h, S, R, A⟩ => ?_
  refine tG_of S R A fun v h1 g1 H1 x E S1 R1 r1 A1 => ?_
  show _ ∨ _
  unfold vLen at A1
  split at A1
  · rename_i s
    split at A1
    · rename_i hl
      simp only [VR] at r1
      subst r1
      exact .inl ⟨_, _, rfl, ⟨by rw [sOf_len]; exact line_ok hl, rfl⟩, by rw [sOf_len]; exact A1 g1 H1 _ Ext.refl R1 (by simp only [VR])⟩
    · exact A1.elim
  · split at A1
    · rename_i k hk
      obtain ⟨a, xs, rfl, s, r⟩ := seqOf_ok R1 r1 hk
      refine .inl ⟨_, xs.length, rfl, ?_, by rw [← r.length]; exact A1 g1 H1 _ Ext.refl R1 (by simp only [VR])⟩
      rcases s with s | s
      · exact .inl ⟨xs, s, rfl⟩
      · exact .inr ⟨xs, s, rfl⟩
    · split at A1
      · rename_i k hk
        obtain ⟨i, a, ks, rfl, rfl, hm, hi, ha, d⟩ := dicOf_ok R1 r1 hk
        exact .inr ⟨a, ks, rfl, .inl ha, by rw [← d.length]; exact A1 g1 H1 _ Ext.refl R1 (by simp only [VR])⟩
      · exact A1.elim
def vTru (v : Val) (h : Hv) : Res Bool := match v with
  | .non => .ok false h
  | .bl b => .ok b h
  | .int i => .ok (i != 0) h
  | .str s => if s.length ≤ lineN then .ok (!s.isEmpty) h else .fail
  | v => match seqOf h v with
    | some l => .ok (!l.isEmpty) h
    | none => match dicOf h v with
      | some l => .ok (!l.isEmpty) h
      | none => .fail
theorem isEmpty_len {α β : Type} {l : List α} {l' : List β} (h : l.length = l'.length) : l.isEmpty = l'.isEmpty := by
  cases l <;> cases l' <;> simp_all
theorem vTru_ok {W : WX} {g : Gh} {H : Hp} {h : Hv} {σ : L2.St} {v : Val} {x : V} {Q : Bool → Hp → Prop} (R : HR X.K g H h) (rv : VR X.K g H v x) (A : After X.K W br σ g H Q (vTru v h)) : ∃ k, TruV X.K x H k ∧ Q k H := by
  unfold vTru at A
  split at A
  · simp only [VR] at rv; subst rv; exact ⟨_, rfl, A g H _ Ext.refl R rfl⟩
  · simp only [VR] at rv; subst rv; exact ⟨_, rfl, A g H _ Ext.refl R rfl⟩
  · simp only [VR] at rv; subst rv; exact ⟨_, rfl, A g H _ Ext.refl R rfl⟩
  · rename_i s
    split at A
    · rename_i hl
      simp only [VR] at rv
      subst rv
      refine ⟨_, ⟨by rw [sOf_len]; exact line_ok hl, rfl⟩, ?_⟩
      rw [sOf_len]
      have e : ((s.length : Int) != 0) = !s.isEmpty := by cases s <;> simp <;> omega
      rw [e]
      exact A g H _ Ext.refl R rfl
    · exact A.elim
  · split at A
    · rename_i k hk
      obtain ⟨a, xs, rfl, s, r⟩ := seqOf_ok R rv hk
      refine ⟨!xs.isEmpty, ?_, by rw [← isEmpty_len r.length]; exact A g H _ Ext.refl R rfl⟩
      rcases s with s | s
      · exact .inl ⟨xs, s, rfl⟩
      · exact .inr (.inl ⟨xs, s, rfl⟩)
    · split at A
      · rename_i k hk
        obtain ⟨i, a, ks, rfl, rfl, hm, hi, ha, d⟩ := dicOf_ok R rv hk
        exact ⟨!ks.isEmpty, .inr (.inr ⟨ks, ha, rfl⟩), by rw [← isEmpty_len d.length]; exact A g H _ Ext.refl R rfl⟩
      · exact A.elim
def dTru (d : Den) : DenG Bool := fun l h => (d l h).bind vTru
theorem gt_tru {W : WX} {e : Expr} {d : Den} (he : GE X W e d) (hs : ∀ whole, isTrue e X.env whole = (do let v ← whole; standAt e.pos; holding [v] (truthy v)) := by intro _; rfl) : GT X W e (dTru d) := by
  refine PT.imp (pt_truth he hs) fun σ H Q ⟨g, l, h, S, R, A⟩ => ?_
  exact tG_of S R A fun v h1 g1 H1 x E S1 R1 r1 A1 => vTru_ok R1 r1 A1
end
end GH
set_option Elab.async false
set_option linter.all false
set_option maxRecDepth 100000
set_option maxHeartbeats 1000000
set_option autoImplicit false
/-! Loops and comprehensions. -/
namespace GH
open PySem PySem.Spec PyProof.Rows L2
variable [TheWorld]

/-- behind a loop's body -/
def SRes.turn (r : SRes) (k : Stm) : SRes := match r with
  | .nx l h => k l h
  | .ct l h => k l h
  | .bk l h => .nx l h
  | r => r
@[simp] theorem SRes.turn_nx (l : Loc) (h : Hv) (k : Stm) : (SRes.nx l h).turn k = k l h := rfl
@[simp] theorem SRes.turn_ct (l : Loc) (h : Hv) (k : Stm) : (SRes.ct l h).turn k = k l h := rfl
@[simp] theorem SRes.turn_bk (l : Loc) (h : Hv) (k : Stm) : (SRes.bk l h).turn k = .nx l h := rfl
@[simp] theorem SRes.turn_rt (v : Val) (h : Hv) (k : Stm) : (SRes.rt v h).turn k = .rt v h := rfl
@[simp] theorem SRes.turn_exc (e : Ex) (l : Loc) (h : Hv) (k : Stm) : (SRes.exc e l h).turn k = .exc e l h := rfl
@[simp] theorem SRes.turn_fail (k : Stm) : SRes.fail.turn k = .fail := rfl

/-! ### while -/
def whileN : Nat → DenG Bool → Stm → Stm
  | 0, _, _ => fun _ _ => .fail
  | n + 1, c, b => fun l h => (c l h).to l fun t h1 => if t = true then (b l h1).turn (whileN n c b) else .nx l h1
theorem whileN_mono (c : DenG Bool) (b : Stm) : ∀ (n : Nat) (l : Loc) (h : Hv), whileN n c b l h ≠ .fail → whileN (n + 1) c b l h = whileN n c b l h
  | 0, l, h, e => absurd rfl e
  | n + 1, l, h, e => by
    show (c l h).to l (fun t h1 => if t = true then (b l h1).turn (whileN (n + 1) c b) else .nx l h1) = (c l h).to l (fun t h1 => if t = true then (b l h1).turn (whileN n c b) else .nx l h1)
    have e : (c l h).to l (fun t h1 => if t = true then (b l h1).turn (whileN n c b) else .nx l h1) ≠ .fail := e
    cases ec : c l h with
    | ok t h1 =>
      rw [ec] at e
      simp only [Res.to_ok] at e ⊢
      cases t with
      | false => rfl
      | true =>
        simp only [if_true] at e ⊢
        cases eb : b l h1 with
        | nx l2 h2 => rw [eb] at e; exact whileN_mono c b n l2 h2 e
        | ct l2 h2 => rw [eb] at e; exact whileN_mono c b n l2 h2 e
        | bk l2 h2 => rfl
        | rt v h2 => rfl
        | exc x l2 h2 => rfl
        | fail => rfl
    | exc x h1 => rfl
    | fail => rfl
theorem whileN_le (c : DenG Bool) (b : Stm) {n : Nat} {l : Loc} {h : Hv} (e : whileN n c b l h ≠ .fail) : ∀ k, whileN (n + k) c b l h = whileN n c b l h
  | 0 => rfl
  | k + 1 => by
    have ih := whileN_le c b e k
    rw [← Nat.add_assoc, whileN_mono c b (n + k) l h (by rw [ih]; exact e), ih]
open Classical in
noncomputable def sWhile (c : DenG Bool) (b : Stm) : Stm := fun l h => if ex : ∃ n, whileN n c b l h ≠ .fail then whileN (Classical.choose ex) c b l h else .fail
theorem sWhile_of {c : DenG Bool} {b : Stm} {n : Nat} {l : Loc} {h : Hv} (e : whileN n c b l h ≠ .fail) : sWhile c b l h = whileN n c b l h := by
  have ex : ∃ n, whileN n c b l h ≠ .fail := ⟨n, e⟩
  unfold sWhile
  rw [dif_pos ex]
  have e' := Classical.choose_spec ex
  generalize Classical.choose ex = m at e'
  rcases Nat.le_total n m with q | q
  · obtain ⟨k, rfl⟩ := Nat.exists_eq_add_of_le q
    exact whileN_le c b e k
  · obtain ⟨k, rfl⟩ := Nat.exists_eq_add_of_le q
    exact (whileN_le c b e' k).symm
theorem sWhile_ne {c : DenG Bool} {b : Stm} {l : Loc} {h : Hv} (e : sWhile c b l h ≠ .fail) : ∃ n, whileN n c b l h ≠ .fail ∧ sWhile c b l h = whileN n c b l h := by
  unfold sWhile at e
  split at e
  · rename_i ex
    exact ⟨_, e, by unfold sWhile; rw [dif_pos ex]⟩
  · exact absurd rfl e
/-- the loop's own equation -/
theorem sWhile_eq (c : DenG Bool) (b : Stm) (l : Loc) (h : Hv) : sWhile c b l h = (c l h).to l fun t h1 => if t = true then (b l h1).turn (sWhile c b) else .nx l h1 := by
  cases ec : c l h with
  | exc x h1 =>
    have e : whileN 1 c b l h = .exc x l h1 := by show (c l h).to l _ = _; rw [ec]; rfl
    rw [sWhile_of (n := 1) (by rw [e]; exact fun z => nomatch z), e]
    rfl
  | fail =>
    by_cases e : sWhile c b l h = .fail
    · rw [e]; rfl
    · obtain ⟨n, e1, e2⟩ := sWhile_ne e
      cases n with
      | zero => exact absurd rfl e1
      | succ n => exact absurd (by show (c l h).to l _ = _; rw [ec]; rfl) e1
  | ok t h1 =>
    simp only [Res.to_ok]
    cases t with
    | false =>
      have e : whileN 1 c b l h = .nx l h1 := by show (c l h).to l _ = _; rw [ec]; rfl
      rw [sWhile_of (n := 1) (by rw [e]; exact fun z => nomatch z), e]
      rfl
    | true =>
      simp only [if_true]
      have step : ∀ n, whileN (n + 1) c b l h = (b l h1).turn (whileN n c b) := fun n => by show (c l h).to l _ = _; rw [ec]; rfl
      have ends : ∀ r : SRes, r ≠ .fail → (∀ k, (b l h1).turn k = r) → sWhile c b l h = (b l h1).turn (sWhile c b) := fun r nr hr => by
        rw [sWhile_of (n := 1) (by rw [step, hr]; exact nr), step, hr, hr]
      have goes : ∀ l2 h2, (∀ k : Stm, (b l h1).turn k = k l2 h2) → sWhile c b l h = (b l h1).turn (sWhile c b) := fun l2 h2 hk => by
        rw [hk]
        by_cases e : sWhile c b l2 h2 = .fail
        · rw [e]
          by_cases e' : sWhile c b l h = .fail
          · exact e'
          · obtain ⟨n, e1, e2⟩ := sWhile_ne e'
            cases n with
            | zero => exact absurd rfl e1
            | succ n =>
              rw [step, hk] at e1
              exact absurd (sWhile_of e1 ▸ e) e1
        · obtain ⟨n, e1, e2⟩ := sWhile_ne e
          rw [sWhile_of (n := n + 1) (by rw [step, hk]; exact e1), step, hk, e2]
      cases eb : b l h1 with
      | nx l2 h2 => rw [← eb]; exact goes l2 h2 fun k => by rw [eb]; rfl
      | ct l2 h2 => rw [← eb]; exact goes l2 h2 fun k => by rw [eb]; rfl
      | bk l2 h2 => rw [← eb]; exact ends (.nx l2 h2) (fun z => nomatch z) fun k => by rw [eb]; rfl
      | rt v h2 => rw [← eb]; exact ends (.rt v h2) (fun z => nomatch z) fun k => by rw [eb]; rfl
      | exc x l2 h2 => rw [← eb]; exact ends (.exc x l2 h2) (fun z => nomatch z) fun k => by rw [eb]; rfl
      | fail =>
        show sWhile c b l h = .fail
        by_cases e : sWhile c b l h = .fail
        · exact e
        · obtain ⟨n, e1, e2⟩ := sWhile_ne e
          cases n with
          | zero => exact absurd rfl e1
          | succ n => exact absurd (by rw [step, eb]; rfl) e1
section
variable {X : Cx} {W : WX}
theorem gs_while {c : Expr} {body : List Stmt} {dc : DenG Bool} {db : Stm} {pos : Pos} (hp : PassesOwn (model X.prog X.w) X.A X.env X.xe) (hc : GT X W c dc) (hb : GSs X W body db) : GS X W (.While c body [] pos) (sWhile dc db) := by
  refine PS.imp (ps_while hp hc hb) fun D σ H ⟨g, l, h, S, R, A⟩ => ?_
  have nf : sWhile dc db l h ≠ .fail := fun e => by rw [e] at A; exact A
  obtain ⟨n0, e0, e1⟩ := sWhile_ne nf
  rw [e1] at A
  refine ⟨fun m σ H => ∃ g l h, SR X.K g H l σ ∧ HR X.K g H h ∧ AfterS X.K W g H D (whileN m dc db l h), ⟨n0, g, l, h, S, R, A⟩, ?_⟩
  rintro m σ H ⟨g, l, h, S, R, A⟩
  cases m with
  | zero => exact A.elim
  | succ m =>
    have A : AfterS X.K W g H D ((dc l h).to l fun t h1 => if t = true then (db l h1).turn (whileN m dc db) else .nx l h1) := A
    refine tG_to S R A fun t h1 g1 H1 x E S1 R1 r1 A1 => ?_
    obtain rfl : t = x := r1
    cases t with
    | false => exact A1 g1 H1 σ Ext.refl R1 S1
    | true =>
      simp only [if_true] at A1 ⊢
      refine ⟨fun σ' H' => ∃ g l h, SR X.K g H' l σ' ∧ HR X.K g H' h ∧ AfterS X.K W g H' D (whileN m dc db l h), fun σ' H' q => ⟨m, Nat.lt_succ_self m, q⟩, g1, l, h1, S1, R1, ?_⟩
      cases eb : db l h1 with
      | nx l2 h2 => rw [eb] at A1; exact fun g' H' σ' E' R' S' => ⟨g', l2, h2, S', R', AfterS.ext E' A1⟩
      | ct l2 h2 => rw [eb] at A1; exact fun g' H' σ' E' R' S' => ⟨g', l2, h2, S', R', AfterS.ext E' A1⟩
      | bk l2 h2 => rw [eb] at A1; exact A1
      | rt v h2 => rw [eb] at A1; exact A1
      | exc x l2 h2 => rw [eb] at A1; exact A1
      | fail => rw [eb] at A1; exact A1

/-! ### what is walked -/
/-- the items, and the object of ours that must stay as it is -/
abbrev Src := List Val × Option Nat
def srcOk (s : Src) (h : Hv) : Prop := match s.2 with
  | none => True
  | some j => h[j]? = some (.lst s.1)
/-- the iterator J serves these items -/
def Serves (K : PySem.W.Frag) (J : It) (g0 : Gh) (H0 : Hp) (s : Src) : Prop := ∀ g H h, ExtS g0 H0 g H → HR K g H h → srcOk s h → ∀ i,
  (∀ v, s.1[i]? = some v → J.go i H ∧ ∀ x H', J.yld i H x H' → Ext g H g H' ∧ HR K g H' h ∧ VR K g H' v x) ∧ (i = s.1.length → J.stop i H)
/-- what follows an iterator -/
def AfterI (K : PySem.W.Frag) (W : WX) (σ : L2.St) (g : Gh) (H : Hp) (R : It → Hp → Prop) : Res Src → Prop
  | .ok s h' => srcOk s h' ∧ ∀ g' H' J, Ext g H g' H' → HR K g' H' h' → s.1.length ≤ sizeLine → Serves K J g' H' s → R J H'
  | .exc e h' => ∀ g' H' cls d, Ext g H g' H' → HR K g' H' h' → ER K g' H' e cls d → W cls d σ H'
  | .fail => False
def tI (K : PySem.W.Frag) (W : WX) (d : DenG Src) : TI := fun σ H R => ∃ g l h, SR K g H l σ ∧ HR K g H h ∧ AfterI K W σ g H R (d l h)
def GI (X : Cx) (W : WX) (tg iter : Expr) (d : DenG Src) : Prop := PI X tg iter (tI X.K W d)
theorem PI.imp {tg e : Expr} {t t' : TI} (p : PI X tg e t) (h : ∀ pins s σ H R, Inv X pins σ H s → t' σ H R → t σ H R) : PI X tg e t' := ⟨fun pins s σ H R I q => p.run pins s σ H R I (h pins s σ H R I q)⟩
theorem PI.or {tg e : Expr} {t t' : TI} (p : PI X tg e t) (p' : PI X tg e t') : PI X tg e fun σ H R => t σ H R ∨ t' σ H R := ⟨fun pins s σ H R I q => by
  rcases q with q | q
  · exact p.run pins s σ H R I q
  · exact p'.run pins s σ H R I q⟩

/-! ### for -/
open Classical in
noncomputable def forL (t : Tg) (b : Stm) (s : Src) : List Val → Stm
  | [] => fun l h => if srcOk s h then .nx l h else .fail
  | x :: r => fun l h => if srcOk s h then (match t x l h with
    | .ok l1 h1 => (b l1 h1).turn (forL t b s r)
    | .exc e l1 h1 => .exc e l1 h1
    | .fail => .fail) else .fail
noncomputable def sFor (di : DenG Src) (t : Tg) (b : Stm) : Stm := fun l h => (di l h).to l fun s h1 => forL t b s s.1 l h1
theorem gs_for {tg iter : Expr} {body : List Stmt} {di : DenG Src} {t : Tg} {db : Stm} {pos : Pos} (hp : PassesOwn (model X.prog X.w) X.A X.env X.xe) (hc : X.calm = true) (hi : GI X W tg iter di) (hg : GG X W tg t) (hb : GSs X W body db)
    (hs : ∀ x, foldedSetIterable iter X.env x = pure x := by intro _; rfl) : GS X W (.For tg iter body [] pos) (sFor di t db) := by
  refine PS.imp (ps_for hp hc hi hg hb hs) fun D σ H ⟨g, l, h, S, R, A⟩ => ?_
  refine ⟨g, l, h, S, R, ?_⟩
  unfold sFor at A
  unfold AfterI
  cases e : di l h with
  | exc x h1 => rw [e] at A; exact fun g' H' c d E' R' r => A g' H' σ c d E' R' (S.ext R E') r
  | fail => rw [e] at A; exact A
  | ok s h1 =>
    rw [e] at A
    simp only [Res.to_ok] at A
    have ok1 : srcOk s h1 := by
      cases hs1 : s.1 with
      | nil =>
        rw [hs1] at A
        simp only [forL] at A
        split at A
        · assumption
        · exact A.elim
      | cons x r =>
        rw [hs1] at A
        simp only [forL] at A
        split at A
        · assumption
        · exact A.elim
    refine ⟨ok1, fun g1 H1 J E1 R1 hz sv => ?_⟩
    refine ⟨fun i m σ H => ∃ g l h, Ext g1 H1 g H ∧ SR X.K g H l σ ∧ HR X.K g H h ∧ m = s.1.length - i ∧ i ≤ s.1.length ∧ AfterS X.K W g H D (forL t db s (s.1.drop i) l h), ⟨s.1.length, g1, l, h1, Ext.refl, S.ext R E1, R1, by simp, Nat.zero_le _, by simpa using AfterS.ext E1 A⟩, ?_⟩
    rintro i m σ H ⟨g, l, h, E, S, R, rfl, hil, A⟩
    cases hd : s.1.drop i with
    | nil =>
      have hle : s.1.length ≤ i := List.drop_eq_nil_iff.mp hd
      rw [hd] at A
      simp only [forL] at A
      split at A
      · rename_i ok
        exact .inl ⟨(sv g H h E.s R ok i).2 (Nat.le_antisymm hil hle), A g H σ Ext.refl R S⟩
      · exact A.elim
    | cons v r =>
      have hlt : i < s.1.length := by
        by_cases q : i < s.1.length
        · exact q
        · rw [List.drop_eq_nil_iff.mpr (by omega)] at hd; cases hd
      have hv : s.1[i]? = some v := by
        have q := congrArg List.head? hd
        rw [List.head?_drop] at q
        simpa using q
      have hr : s.1.drop (i + 1) = r := by
        have q := congrArg List.tail hd
        rw [List.tail_drop] at q
        simpa using q
      rw [hd] at A
      simp only [forL] at A
      split at A
      · rename_i ok
        obtain ⟨go, yl⟩ := (sv g H h E.s R ok i).1 v hv
        refine .inr ⟨go, fun σ' H' => ∃ g l h, Ext g1 H1 g H' ∧ SR X.K g H' l σ' ∧ HR X.K g H' h ∧ i + 1 ≤ s.1.length ∧ AfterS X.K W g H' D (forL t db s (s.1.drop (i + 1)) l h), fun σ' H' ⟨g, l, h, q1, q2, q3, q4, q5⟩ => ⟨s.1.length - (i + 1), by omega, g, l, h, q1, q2, q3, rfl, q4, q5⟩, fun x H' y => ?_⟩
        obtain ⟨E2, R2, rx⟩ := yl x H' y
        refine ⟨g, l, h, v, S.ext R E2, R2, rx, ?_⟩
        have A2 := AfterS.ext E2 A
        cases et : t v l h with
        | exc x l1 h1 => rw [et] at A2; exact A2
        | fail => rw [et] at A2; exact A2
        | ok l2 h2 =>
          rw [et] at A2
          simp only at A2
          intro g3 H3 σ3 E3 R3 S3
          refine ⟨g3, l2, h2, S3, R3, ?_⟩
          have A3 := AfterS.ext E3 A2
          have E03 := (E.trans E2).trans E3
          cases eb : db l2 h2 with
          | nx l4 h4 => rw [eb] at A3; exact fun g' H' σ' E' R' S' => ⟨g', l4, h4, E03.trans E', S', R', hlt, by rw [hr]; exact AfterS.ext E' A3⟩
          | ct l4 h4 => rw [eb] at A3; exact fun g' H' σ' E' R' S' => ⟨g', l4, h4, E03.trans E', S', R', hlt, by rw [hr]; exact AfterS.ext E' A3⟩
          | bk l4 h4 => rw [eb] at A3; exact A3
          | rt v4 h4 => rw [eb] at A3; exact A3
          | exc x4 l4 h4 => rw [eb] at A3; exact A3
          | fail => rw [eb] at A3; exact A3
      · exact A.elim
end
end GH
set_option Elab.async false
set_option linter.all false
set_option maxRecDepth 100000
set_option maxHeartbeats 1000000
set_option autoImplicit false
/-! What may be walked; list comprehensions. -/
namespace GH
open PySem PySem.Spec PyProof.Rows L2
variable [TheWorld]

section
variable {K : PySem.W.Frag} {g0 g : Gh} {H0 H : Hp}
theorem sqL_ext {a : Addr} {xs : List V} {h : Hv} (R : HR K g0 H0 h) (E : ExtS g0 H0 g H) (na : ¬ g0.own a) (s : SqL K H0 a xs) : SqL K H a xs := by
  rcases s with s | s
  · exact .inl (E.rd na s)
  · exact .inr s
theorem sqT_ext {a : Addr} {xs : List V} {h : Hv} (R : HR K g0 H0 h) (E : ExtS g0 H0 g H) (s : SqT K H0 a xs) : SqT K H a xs := by
  rcases s with s | s
  · exact .inl (E.rd (R.tup_own s) s)
  · exact .inr s
/-- a walk whose items stay -/
theorem serves_of {J : It} {items : List Val} {src : Option Nat} {n : Nat} (hn : n = items.length)
    (hw : ∀ g H h, ExtS g0 H0 g H → HR K g H h → srcOk (items, src) h → ∃ (G : Hp → Prop) (Y : Nat → Hp → V → Hp → Prop), Walk J n G Y ∧ G H ∧ ∀ i x H' v, items[i]? = some v → Y i H x H' → Ext g H g H' ∧ HR K g H' h ∧ VR K g H' v x) : Serves K J g0 H0 (items, src) := by
  intro g H h E R ok i
  obtain ⟨G, Y, w, gh, hy⟩ := hw g H h E R ok
  refine ⟨fun v hv => ?_, fun hi => ?_⟩
  · have hi : i < n := by rw [hn]; exact (List.getElem?_eq_some_iff.mp hv).1
    exact ⟨w.goes i H hi gh, fun x H' y => hy i x H' v hv (w.yields i H x H' hi gh y)⟩
  · rw [hi]
    show J.stop items.length H
    rw [← hn]
    exact w.stops H gh
theorem serves_list {a : Addr} {xs : List V} {items : List Val} {h : Hv} (R0 : HR K g0 H0 h) (na : ¬ g0.own a) (s : SqL K H0 a xs) (r : VRs K g0 H0 items xs) : Serves K (Itl K a) g0 H0 (items, none) :=
  serves_of (n := xs.length) r.length.symm fun g H h E R _ => ⟨_, _, walk_list, sqL_ext R0 E na s, fun i x H' v hv y => by
    obtain ⟨rfl, e⟩ := y
    obtain ⟨z, e1, e2⟩ := r.get hv
    rw [e] at e1; cases e1
    exact ⟨Ext.refl, R, e2.extS R0 E⟩⟩
theorem serves_fz {a : Addr} {xs : List V} {items : List Val} {h : Hv} (R0 : HR K g0 H0 h) (s : FzL K H0 a xs) (r : VRs K g0 H0 items xs) : Serves K (Itl K a) g0 H0 (items, none) :=
  serves_of (n := xs.length) r.length.symm fun g H h E R _ => ⟨_, _, walk_list, (s.imp fun o s => E.keep _ _ s (R0.not_own s fun z => z)).sq, fun i x H' v hv y => by
    obtain ⟨rfl, e⟩ := y
    obtain ⟨z, e1, e2⟩ := r.get hv
    rw [e] at e1; cases e1
    exact ⟨Ext.refl, R, e2.extS R0 E⟩⟩
theorem serves_tup {a : Addr} {xs : List V} {items : List Val} {h : Hv} (R0 : HR K g0 H0 h) (s : SqT K H0 a xs) (r : VRs K g0 H0 items xs) : Serves K (Itt K a) g0 H0 (items, none) :=
  serves_of (n := xs.length) r.length.symm fun g H h E R _ => ⟨_, _, walk_tup, sqT_ext R0 E s, fun i x H' v hv y => by
    obtain ⟨rfl, e⟩ := y
    obtain ⟨z, e1, e2⟩ := r.get hv
    rw [e] at e1; cases e1
    exact ⟨Ext.refl, R, e2.extS R0 E⟩⟩
/-- a list of ours that must stay -/
theorem serves_ref {a : Addr} {items : List Val} {j : Nat} (hm : g0.m[j]? = some a) : Serves K (Itl K a) g0 H0 (items, some j) :=
  serves_of (n := items.length) rfl fun g H h E R ok => by
    have ok : h[j]? = some (.lst items) := ok
    obtain ⟨t, em, _⟩ := E.m
    have hm' : g.m[j]? = some a := by rw [em, List.getElem?_append_left (List.getElem?_eq_some_iff.mp hm).1]; exact hm
    obtain ⟨xs, e1, r⟩ := ref_at R ok hm'
    refine ⟨fun H => SqL K H a xs, YAt xs, by rw [r.length]; exact walk_list, SqL.of e1, fun i x H' v hv y => ?_⟩
    obtain ⟨rfl, e⟩ := y
    obtain ⟨z, e1, e2⟩ := r.get hv
    rw [e] at e1; cases e1
    exact ⟨Ext.refl, R, e2⟩
theorem serves_str {z : List Nat} : Serves K (Its (sOf z)) g0 H0 (z.map fun c => .str [c], none) :=
  serves_of (n := (sOf z).cps.size) (by simp [sOf]) fun g H h E R _ => ⟨_, _, walk_str, trivial, fun i x H' v hv y => by
    obtain ⟨rfl, c, e, rfl⟩ := y
    rw [List.getElem?_map] at hv
    simp [sOf] at e
    rw [e] at hv
    simp at hv
    subst hv
    exact ⟨Ext.refl, R, by simp only [VR]; rfl⟩⟩
/-- lo, lo + 1, .. -/
def rangeL (lo : Int) (n : Nat) : List Val := (List.range n).map fun i => .int (lo + (i : Nat))
theorem serves_range {lo : Int} {n : Nat} : Serves K (Itr lo n) g0 H0 (rangeL lo n, none) :=
  serves_of (n := n) (by simp [rangeL]) fun g H h E R _ => ⟨_, _, walk_range, trivial, fun i x H' v hv y => by
    obtain ⟨rfl, rfl⟩ := y
    unfold rangeL at hv
    rw [List.getElem?_map] at hv
    by_cases hi : i < n
    · rw [List.getElem?_range hi] at hv
      simp at hv
      subst hv
      exact ⟨Ext.refl, R, by simp only [VR]⟩
    · rw [List.getElem?_eq_none (by simp; omega)] at hv
      cases hv⟩
/-- pairs of two lists' items, each a new tuple -/
theorem serves_pair {J : It} {xs ys : List V} {l k : List Val} {n : Nat} {G : Hp → Prop} {h : Hv} (R0 : HR K g0 H0 h) (hn : n = (l.zip k).length) (w : Walk J n G (YPair (fun i => xs[i]?) (fun i => ys[i]?))) (hG : ∀ g H, ExtS g0 H0 g H → G H) (r : VRs K g0 H0 l xs) (q : VRs K g0 H0 k ys) :
    Serves K J g0 H0 ((l.zip k).map fun p => .tup [p.1, p.2], none) :=
  serves_of (n := n) (by simpa using hn) fun g H h E R _ => ⟨_, _, w, hG g H E, fun i x H' v hv y => by
    obtain ⟨T, x1, y1, rfl, nT, rfl, e1, e2⟩ := y
    rw [List.getElem?_map] at hv
    cases ez : (l.zip k)[i]? with
    | none => rw [ez] at hv; cases hv
    | some p =>
      rw [ez] at hv
      simp at hv
      subst hv
      obtain ⟨f1, f2⟩ := List.getElem?_zip_eq_some.mp ez
      obtain ⟨a1, b1, c1⟩ := r.get f1
      obtain ⟨a2, b2, c2⟩ := q.get f2
      have e1 : xs[i]? = some x1 := e1
      have e2 : ys[i]? = some y1 := e2
      rw [e1] at b1; cases b1
      rw [e2] at b2; cases b2
      obtain ⟨E1, R1⟩ := R.grow (o := .tup [x1, y1]) nT
      refine ⟨E1, R1, ?_⟩
      simp only [VR]
      exact ⟨T, _, rfl, SqT.of upd_same, .cons ((c1.extS R0 E).ext R E1) (.cons ((c2.extS R0 E).ext R E1) .nil)⟩⟩
end
/-! ### for x in e -/
def vIter (v : Val) (h : Hv) : Res Src := match v with
  | .tup l => .ok (l, none) h
  | .lst l => .ok (l, none) h
  | .fz l => .ok (l, none) h
  | .str s => if s.length ≤ lineN then .ok (s.map (fun c => .str [c]), none) h else .fail
  | .ref i => match h[i]? with
    | some (.lst l) => .ok (l, some i) h
    | _ => .fail
  | _ => .fail
def iSeq (d : Den) : DenG Src := fun l h => (d l h).bind vIter
/-- from an expression's result on, for what walks -/
theorem tG_I {K : PySem.W.Frag} {W : WX} {σ : L2.St} {g : Gh} {H : Hp} {l : Loc} {h : Hv} {α β : Type} {rel : Gh → Hp → α → β → Prop} {d : DenG α} {k : α → Hv → Res Src} {R : It → Hp → Prop} {R' : β → Hp → Prop} (S : SR K g H l σ) (hr : HR K g H h)
    (A : AfterI K W σ g H R ((d l h).bind k))
    (hk : ∀ v h1 g1 H1 x, Ext g H g1 H1 → SR K g1 H1 l σ → HR K g1 H1 h1 → rel g1 H1 v x → AfterI K W σ g1 H1 R (k v h1) → R' x H1) : tG K W rel d σ H R' := by
  refine ⟨g, l, h, S, hr, ?_⟩
  cases e : d l h with
  | ok v h1 =>
    rw [e] at A
    simp only [Res.bind_ok] at A
    intro g' H' x E R1 r
    refine hk v h1 g' H' x E (S.ext hr E) R1 r ?_
    cases ek : k v h1 with
    | ok s h2 => rw [ek] at A; exact ⟨A.1, fun g2 H2 J E2 => A.2 g2 H2 J (E.trans E2)⟩
    | exc x h2 => rw [ek] at A; exact fun g2 H2 c d E2 => A g2 H2 c d (E.trans E2)
    | fail => rw [ek] at A; exact A
  | exc x h1 => rw [e] at A; exact A
  | fail => rw [e] at A; exact A
section
variable {X : Cx} {W : WX}
theorem gi_seq {tg e : Expr} {d : Den} (he : GE X W e d) : GI X W tg e (iSeq d) := by
  refine ⟨fun pins s σ H R I ⟨g, l, h, S, Rh, A⟩ => ?_⟩
  have start : tG X.K W (vr X.K) d σ H fun x H1 => ∃ v h1 g1, HR X.K g1 H1 h1 ∧ VR X.K g1 H1 v x ∧ AfterI X.K W σ g1 H1 R (vIter v h1) :=
    tG_I S Rh A fun v h1 g1 H1 x E S1 R1 r1 A1 => ⟨v, h1, g1, R1, r1, A1⟩
  refine thn (he.run pins s σ H _ I start) fun u s1 ⟨x, H1, I1, r1, v, h1, g1, R1, rv, A1⟩ => ?_
  have lists : ∀ a xs items, x = .ref a → ¬ g1.own a → SqL X.K H1 a xs → VRs X.K g1 H1 items xs → AfterI X.K W σ g1 H1 R (.ok (items, none) h1) → wpAny (model X.prog X.w) X.A (pyIter u) (PIE X pins σ tg R) X.xe s1 := by
    rintro a xs items rfl na hq r A1
    cases r1
    obtain ⟨its, rv, p, hz⟩ := I1.list hq
    refine wpAny_pyIter_list p.isList (pi_one (tk := s1.toks) I1 _ (turn_list _ _) ⟨_, Heap.get?_push_size _ rfl, rfl, rfl⟩ (A1.2 g1 H1 _ Ext.refl R1 (by show items.length ≤ _; rw [r.length]; exact hz) (serves_list R1 na hq r)))
  cases v with
  | tup items =>
    simp only [VR] at rv
    obtain ⟨a, xs, rfl, hq, r⟩ := rv
    cases r1
    obtain ⟨its, rv, p, hz⟩ := I1.tuple hq
    exact wpAny_pyIter_tuple (show s1.heap.IsTuple a its.toArray from p) (pi_one (tk := s1.toks) I1 _ (turn_tuple _ _) ⟨_, Heap.get?_push_size _ rfl, rfl, rfl⟩ (A1.2 g1 H1 _ Ext.refl R1 (by show items.length ≤ _; rw [r.length]; exact hz) (serves_tup R1 hq r)))
  | lst items =>
    simp only [VR] at rv
    obtain ⟨a, xs, rfl, na, hq, r⟩ := rv
    exact lists a xs items rfl na (SqL.of hq) r A1
  | fz items =>
    simp only [VR] at rv
    obtain ⟨a, xs, rfl, hq, r⟩ := rv
    cases r1
    obtain ⟨its, rv, p, hz⟩ := I1.list hq.sq
    exact wpAny_pyIter_list p.isList (pi_one (tk := s1.toks) I1 _ (turn_list _ _) ⟨_, Heap.get?_push_size _ rfl, rfl, rfl⟩ (A1.2 g1 H1 _ Ext.refl R1 (by show items.length ≤ _; rw [r.length]; exact hz) (serves_fz R1 hq r)))
  | str z =>
    simp only [VR] at rv
    subst rv
    obtain ⟨t, rfl⟩ := r1
    simp only [vIter] at A1
    split at A1
    · rename_i hz
      have q := A1.2 g1 H1 _ Ext.refl R1 (by simpa using line_ok hz) serves_str
      cases ha : (sOf z).cps.all (· < 128)
      · exact wpAny_pyIter_wide ha (pi_one (tk := s1.toks) I1 _ (turn_str _ _ t "str_iterator" (.inr rfl)) ⟨_, Heap.get?_push_size _ rfl, rfl, rfl⟩ q)
      · exact wpAny_pyIter_ascii ha (pi_one (tk := s1.toks) I1 _ (turn_str _ _ t "str_ascii_iterator" (.inl rfl)) ⟨_, Heap.get?_push_size _ rfl, rfl, rfl⟩ q)
    · exact A1.elim
  | ref i =>
    simp only [vIter] at A1
    split at A1
    · rename_i items hi
      simp only [VR] at rv
      obtain ⟨a, rfl, hm⟩ := rv
      obtain ⟨xs, e1, r⟩ := ref_at R1 hi hm
      cases r1
      obtain ⟨its, rv, p, hz⟩ := I1.list (SqL.of e1)
      exact wpAny_pyIter_list p.isList (pi_one (tk := s1.toks) I1 _ (turn_list _ _) ⟨_, Heap.get?_push_size _ rfl, rfl, rfl⟩ (A1.2 g1 H1 _ Ext.refl R1 (by show items.length ≤ _; rw [r.length]; exact hz) (serves_ref hm)))
    · exact A1.elim
  | _ => exact A1.elim
/-! ### range -/
def vRange1 (v : Val) (h : Hv) : Res Src := match v with
  | .int j => if -(2 ^ 62) ≤ j ∧ j ≤ 16777216 then .ok (rangeL 0 j.toNat, none) h else .fail
  | _ => .fail
def vRange2 (v u : Val) (h : Hv) : Res Src := match v, u with
  | .int i, .int j => if -(2 ^ 62) ≤ i ∧ i < 2 ^ 62 ∧ -(2 ^ 62) ≤ j ∧ j < 2 ^ 62 ∧ j - i ≤ 16777216 then .ok (rangeL i (j - i).toNat, none) h else .fail
  | _, _ => .fail
def iRange1 (d : Den) : DenG Src := fun l h => (d l h).bind vRange1
def iRange2 (a b : Den) : DenG Src := fun l h => (a l h).bind fun v h1 => (b l h1).bind fun u h2 => vRange2 v u h2
theorem rangeL_len (lo : Int) (n : Nat) : (rangeL lo n).length = n := by simp [rangeL]
theorem gi_range1 {tg a : Expr} {d : Den} {p pos : Pos} (he : GE X W a d) (hm : X.mg "range" = none) (hg : Gl X "range" := by rfl) (hs : starEach [a] X.env = (false, eval a X.env) :: starEach [] X.env := by rfl) (hs1 : starEach [a] X.env = [(false, eval a X.env)] := by rfl) : GI X W tg (.Call (.Name "range" p) [a] [] pos) (iRange1 d) := by
  refine PI.imp (pi_range1 hg hm (pa_cons he pa_nil hs) hs1) fun pins s σ H R I ⟨g, l, h, S, Rh, A⟩ => ?_
  refine tG_I S Rh A fun v h1 g1 H1 x E S1 R1 r1 A1 => ?_
  cases v with
  | int j =>
    simp only [VR] at r1
    subst r1
    simp only [vRange1] at A1
    split at A1
    · rename_i c
      exact ⟨j, rfl, c.1, by omega, A1.2 g1 H1 _ Ext.refl R1 (by show (rangeL 0 j.toNat).length ≤ _; rw [rangeL_len, sizeLine_eq]; omega) serves_range⟩
    · exact A1.elim
  | _ => exact A1.elim
theorem gi_range2 {tg a b : Expr} {da db : Den} {p pos : Pos} (ha : GE X W a da) (hb : GE X W b db) (hm : X.mg "range" = none) (hg : Gl X "range" := by rfl) (hs : starEach [a, b] X.env = (false, eval a X.env) :: starEach [b] X.env := by rfl) (hs1 : starEach [a, b] X.env = [(false, eval a X.env), (false, eval b X.env)] := by rfl)
    (hs2 : starEach [b] X.env = (false, eval b X.env) :: starEach [] X.env := by rfl) (hs3 : starEach [b] X.env = [(false, eval b X.env)] := by rfl) : GI X W tg (.Call (.Name "range" p) [a, b] [] pos) (iRange2 da db) := by
  refine PI.imp (pi_range2 hg hm (pa_cons ha (pa_cons hb pa_nil hs2) hs) hs1 hs3) fun pins s σ H R I ⟨g, l, h, S, Rh, A⟩ => ?_
  refine tG_I S Rh A fun v h1 g1 H1 x E S1 R1 r1 A1 => ?_
  refine tG_I S1 R1 A1 fun u h2 g2 H2 y E2 S2 R2 r2 A2 => ?_
  cases v with
  | int i =>
    cases u with
    | int j =>
      simp only [VR] at r1 r2
      subst r1 r2
      simp only [vRange2] at A2
      split at A2
      · rename_i c
        exact ⟨i, j, rfl, ⟨c.1, c.2.1, c.2.2.1, c.2.2.2.1⟩, A2.2 g2 H2 _ Ext.refl R2 (by show (rangeL i (j - i).toNat).length ≤ _; rw [rangeL_len, sizeLine_eq]; omega) serves_range⟩
      · exact A2.elim
    | _ => exact A2.elim
  | _ => exact A2.elim

/-! ### comprehensions -/
/-- the target of a comprehension: it writes the block's own slots alone -/
def tTc (K : PySem.W.Frag) (vs : List Nat) (d : Tg) : TG := fun x σ H Q => ∃ g l h v, SR K g H l σ ∧ HR K g H h ∧ VR K g H v x ∧ match d v l h with
  | .ok l' h' => ∀ g' H' σ', Ext g H g' H' → HR K g' H' h' → SR K g' H' l' σ' → wipe σ' vs = wipe σ vs → Q σ' H'
  | _ => False
def tTcs (K : PySem.W.Frag) (vs : List Nat) (d : Tgs) : TGs := fun x σ H Q => ∃ g l h v, SR K g H l σ ∧ HR K g H h ∧ VRs K g H v x ∧ match d v l h with
  | .ok l' h' => ∀ g' H' σ', Ext g H g' H' → HR K g' H' h' → SR K g' H' l' σ' → wipe σ' vs = wipe σ vs → Q σ' H'
  | _ => False
def GC (X : Cx) (vs : List Nat) (tg : Expr) (d : Tg) : Prop := PG X tg (tTc X.K vs d)
def GCs (X : Cx) (vs : List Nat) (tg : List Expr) (d : Tgs) : Prop := PGs X tg (tTcs X.K vs d)
theorem wipe_set : ∀ {vs : List Nat} {σ : L2.St} {i : Nat} {x : Option V}, i ∈ vs → wipe (σ.set i x) vs = wipe σ vs
  | [], _, _, _, h => nomatch h
  | v :: vs, σ, i, x, h => by
    unfold wipe
    by_cases hi : i ∈ vs
    · rw [wipe_set hi]
    · have hv : i = v := by
        rcases List.mem_cons.mp h with h | h
        · exact h
        · exact absurd h hi
      subst hv
      have gen : ∀ (us : List Nat), wipe (σ.set i x) us = (wipe σ us).set i x ∨ wipe (σ.set i x) us = wipe σ us := by
        intro us
        induction us with
        | nil => exact .inl rfl
        | cons u us ih =>
          unfold wipe
          rcases ih with e | e
          · rw [e]
            by_cases hu : i = u
            · subst hu; right; rw [List.set_set]
            · left; rw [List.set_comm _ _ hu]
          · right; rw [e]
      rcases gen vs with e | e
      · rw [e, List.set_set]
      · rw [e]
theorem gc_name (i : Nat) {x : Str} {pos : Pos} {vs : List Nat} (hN : X.N.Nodup) (hv : i ∈ vs := by decide) (hi : X.N[i]? = some x := by rfl) (hx : L2.Loc X.env.scope x := by first | exact Or.inl rfl | exact Or.inr rfl) (hf : X.fn x = true ∨ X.env.scope.names.lookup x = some .local := by first | exact .inl rfl | exact .inr rfl) : GC X vs (.Name x pos) (gName i) := by
  refine PG.imp (pg_name hN hi hx hf) fun y σ H Q ⟨g, l, h, v, S, R, r, A⟩ => ?_
  exact A g H _ Ext.refl R (S.set i r) (wipe_set hv)
theorem gcs_nil {vs : List Nat} : GCs X vs [] gsNil := by
  refine PGs.imp pgs_nil fun y σ H Q ⟨g, l, h, v, S, R, r, A⟩ => ?_
  cases v with
  | nil =>
    simp only [VRs] at r
    exact ⟨r, A g H σ Ext.refl R S rfl⟩
  | cons v vs => exact A.elim
theorem gcs_cons {vs : List Nat} {e : Expr} {es : List Expr} {t : Tg} {u : Tgs} (h1 : GC X vs e t) (h2 : GCs X vs es u)
    (hs : (assignEach (e :: es) X.env).map (·.2) = assign e X.env :: (assignEach es X.env).map (·.2) := by rfl) : GCs X vs (e :: es) (gsCons t u) := by
  refine PGs.imp (pgs_cons h1 h2 hs) fun y σ H Q ⟨g, l, h, v, S, R, r, A⟩ => ?_
  cases v with
  | nil => exact A.elim
  | cons v ws =>
    simp only [VRs] at r
    obtain ⟨x, r', rfl, q1, q2⟩ := r
    refine ⟨x, r', rfl, g, l, h, v, S, R, q1, ?_⟩
    simp only [gsCons] at A
    cases e : t v l h with
    | ok l1 h1 =>
      rw [e] at A
      simp only [TRes.bind_ok] at A
      intro g' H' σ' E R' S' w
      refine ⟨g', l1, h1, ws, S', R', q2.ext R E, ?_⟩
      cases e2 : u ws l1 h1 with
      | ok l2 h2 =>
        rw [e2] at A
        exact fun g2 H2 σ2 E2 R2 S2 w2 => A g2 H2 σ2 (E.trans E2) R2 S2 (w2.trans w)
      | exc x l1 h1 => rw [e2] at A; exact A
      | fail => rw [e2] at A; exact A
    | exc x l1 h1 => rw [e] at A; exact A
    | fail => rw [e] at A; exact A
theorem gc_tup {vs : List Nat} {es : List Expr} {k : Nat} {t : Tgs} {n : Nat} {pos : Pos} (hc : X.calm = true) (h : GCs X vs es t)
    (hn : (assignEach es X.env).length = n := by rfl) (hst : (assignEach es X.env).findIdx? (·.1) = none := by rfl) : GC X vs (.Tuple es k pos) (gTup n t) := by
  refine PG.imp (pg_tup hc h hn hst) fun y σ H Q ⟨g, l, h, v, S, R, r, A⟩ => ?_
  cases v with
  | tup ws =>
    simp only [VR] at r
    obtain ⟨a, xs, rfl, q1, q2⟩ := r
    unfold gTup at A
    simp only at A
    split at A
    · rename_i l' h' e
      split at e
      · rename_i hl2
        exact ⟨a, xs, rfl, q1, by rw [← q2.length]; exact hl2, g, l, h, ws, S, R, q2, by rw [e]; exact A⟩
      · cases e
    · exact A.elim
  | _ => exact A.elim
end
end GH
set_option Elab.async false
set_option linter.all false
set_option maxRecDepth 100000
set_option maxHeartbeats 1000000
set_option autoImplicit false
/-! List comprehensions, one clause. -/
namespace GH
open PySem PySem.Spec PyProof.Rows L2
variable [TheWorld]

section
variable {K : PySem.W.Frag} {g : Gh} {H : Hp} {D : Addr} {ds zs : HO}
mutual
theorem VR.reset (hD : D ∈ g.r) (e0 : H D = some ds) (mu : MutX D ds) : ∀ {v : Val} {x : V}, VR K g H v x → VR K g (upd H D zs) v x
  | .non, x, q => by simpa only [VR] using q
  | .bl b, x, q => by simpa only [VR] using q
  | .int i, x, q => by simpa only [VR] using q
  | .str s, x, q => by simpa only [VR] using q
  | .tup l, x, q => by
    simp only [VR] at q ⊢
    obtain ⟨a, xs, e, s, r⟩ := q
    refine ⟨a, xs, e, ?_, VRs.reset hD e0 mu r⟩
    rcases s with (s | ⟨o, s⟩) | s
    · exact .inl (.inl (by rw [upd_ne (show a ≠ D by rintro rfl; rw [e0] at s; cases s; exact mu)]; exact s))
    · exact .inl (.inr ⟨o, by rw [upd_ne (show a ≠ D by rintro rfl; rw [e0] at s; cases s; exact mu)]; exact s⟩)
    · exact .inr s
  | .lst l, x, q => by
    simp only [VR] at q ⊢
    obtain ⟨a, xs, e, n, s, r⟩ := q
    exact ⟨a, xs, e, n, by rw [upd_ne (show a ≠ D by rintro rfl; exact n (.inr hD))]; exact s, VRs.reset hD e0 mu r⟩
  | .fz l, x, q => by
    simp only [VR] at q ⊢
    obtain ⟨a, xs, e, s, r⟩ := q
    exact ⟨a, xs, e, s.imp fun o s => by rw [upd_ne (show a ≠ D by rintro rfl; rw [e0] at s; cases s; exact mu)]; exact s, VRs.reset hD e0 mu r⟩
  | .ref i, x, q => by simpa only [VR] using q
theorem VRs.reset (hD : D ∈ g.r) (e0 : H D = some ds) (mu : MutX D ds) : ∀ {l : List Val} {xs : List V}, VRs K g H l xs → VRs K g (upd H D zs) l xs
  | [], xs, q => by simpa only [VRs] using q
  | v :: l, xs, q => by
    simp only [VRs] at q ⊢
    obtain ⟨x, r, e, q1, q2⟩ := q
    exact ⟨x, r, e, VR.reset hD e0 mu q1, VRs.reset hD e0 mu q2⟩
end
theorem HR.reset {h : Hv} (R : HR K g H h) (hD : D ∈ g.r) (e0 : H D = some ds) (mu : MutX D ds) (mz : MutX D zs) : HR K g (upd H D zs) h := by
  refine ⟨R.len, R.nd, R.dis, fun a ha => ?_, fun i o a e1 e2 => ?_⟩
  · by_cases q : a = D
    · subst q; exact ⟨_, upd_same, mz⟩
    · obtain ⟨ob, e, mo⟩ := R.al a ha
      exact ⟨ob, by rw [upd_ne q]; exact e, mo⟩
  · have hne : a ≠ D := fun z => R.dis a (List.mem_of_getElem? e2) (by rw [z]; exact hD)
    have q := R.obj i o a e1 e2
    cases o with
    | lst l => obtain ⟨xs, e, r⟩ := q; exact ⟨xs, by rw [upd_ne hne]; exact e, r.reset hD e0 mu⟩
    | dic l => obtain ⟨xs, e, r⟩ := q; exact ⟨xs, by rw [upd_ne hne]; exact e, r.1, r.2.reset hD e0 mu⟩
    | ins c f => obtain ⟨dx, gs, e, r⟩ := q; exact ⟨dx, gs, by rw [upd_ne hne]; exact e, r.1, r.2.reset hD e0 mu⟩
    | dn l => obtain ⟨xs, ys, e, p, r1, r2⟩ := q; exact ⟨xs, ys, by rw [upd_ne hne]; exact e, p, r1.reset hD e0 mu, r2.reset hD e0 mu⟩
    | tbl t => exact ⟨q.1, q.2.stay (fun ps e => by rw [upd_ne hne]; exact e) (fun c o e nt hn => ⟨by rw [upd_ne (fun z => hn (.inr (by rw [z]; exact hD)))]; exact e, hn⟩)⟩
theorem Ext.reset {g' : Gh} {H' : Hp} {xs : HO} (E : Ext g H g' H') (hD : D ∉ g.m) (e0 : H D = some ds) (nd : ∀ ps, ds ≠ .tbl ps := by intro ps z; cases z) (nx : ∀ ps, xs ≠ .tbl ps := by intro ps z; cases z) : Ext g (upd H D xs) g' (upd H' D xs) := by
  obtain ⟨t, em, n⟩ := E.m
  refine ⟨⟨t, em, fun b hb => ?_⟩, E.r, fun b o e nt hb => ?_, fun b o e nt => ?_⟩
  · have hne : b ≠ D := by
      rintro rfl
      obtain ⟨ps, z⟩ := n _ hb _ e0
      exact nd ps z
    intro o q
    rw [upd_ne hne] at q
    exact n b hb o q
  · by_cases q : b = D
    · subst q; rw [upd_same] at e ⊢; exact e
    · rw [upd_ne q] at e ⊢; exact E.keepN b o e nt hb
  · by_cases q : b = D
    · subst q; exact ⟨_, upd_same, nx⟩
    · rw [upd_ne q] at e ⊢; exact E.there b o e nt
mutual
theorem VR.own {g' : Gh} {t : List Addr} (hm : g'.m = g.m ++ t) (ho : ∀ a, ¬ g.own a → ¬ g'.own a) : ∀ {v : Val} {x : V}, VR K g H v x → VR K g' H v x
  | .non, x, q => by simpa only [VR] using q
  | .bl b, x, q => by simpa only [VR] using q
  | .int i, x, q => by simpa only [VR] using q
  | .str s, x, q => by simpa only [VR] using q
  | .tup l, x, q => by
    simp only [VR] at q ⊢
    obtain ⟨a, xs, e, s, r⟩ := q
    exact ⟨a, xs, e, s, VRs.own hm ho r⟩
  | .lst l, x, q => by
    simp only [VR] at q ⊢
    obtain ⟨a, xs, e, n, s, r⟩ := q
    exact ⟨a, xs, e, ho a n, s, VRs.own hm ho r⟩
  | .fz l, x, q => by
    simp only [VR] at q ⊢
    obtain ⟨a, xs, e, s, r⟩ := q
    exact ⟨a, xs, e, s, VRs.own hm ho r⟩
  | .ref i, x, q => by
    simp only [VR] at q ⊢
    obtain ⟨a, e, h⟩ := q
    exact ⟨a, e, by rw [hm, List.getElem?_append_left (List.getElem?_eq_some_iff.mp h).1]; exact h⟩
theorem VRs.own {g' : Gh} {t : List Addr} (hm : g'.m = g.m ++ t) (ho : ∀ a, ¬ g.own a → ¬ g'.own a) : ∀ {l : List Val} {xs : List V}, VRs K g H l xs → VRs K g' H l xs
  | [], xs, q => by simpa only [VRs] using q
  | v :: l, xs, q => by
    simp only [VRs] at q ⊢
    obtain ⟨x, r, e, q1, q2⟩ := q
    exact ⟨x, r, e, VR.own hm ho q1, VRs.own hm ho q2⟩
end
theorem HR.less {r' : List Addr} {h : Hv} (R : HR K g H h) (hr : ∀ b ∈ r', b ∈ g.r) : HR K ⟨g.m, r'⟩ H h := by
  have hm : (Gh.mk g.m r').m = g.m ++ [] := by simp
  have ho : ∀ a, ¬ g.own a → ¬ (Gh.mk g.m r').own a := fun a n z => n (z.elim .inl fun z => .inr (hr a z))
  refine ⟨R.len, R.nd, fun a ha z => R.dis a ha (hr a z), fun a ha => R.al a (hr a ha), fun i o a e1 e2 => ?_⟩
  have q := R.obj i o a e1 e2
  cases o with
  | lst l => obtain ⟨xs, e, r⟩ := q; exact ⟨xs, e, r.own hm ho⟩
  | dic l => obtain ⟨xs, e, r⟩ := q; exact ⟨xs, e, r.1, r.2.own hm ho⟩
  | ins c f => obtain ⟨dx, gs, e, r⟩ := q; exact ⟨dx, gs, e, r.1, r.2.own hm ho⟩
  | dn l => obtain ⟨xs, ys, e, p, r1, r2⟩ := q; exact ⟨xs, ys, e, p, r1.own hm ho, r2.own hm ho⟩
  | tbl t => exact ⟨q.1, q.2.stay (fun ps e => e) (fun c o e nt hn => ⟨e, ho _ hn⟩)⟩
theorem SR.extS {g' : Gh} {H' : Hp} {h : Hv} {l : Loc} {σ : L2.St} (S : SR K g H l σ) (R : HR K g H h) (E : ExtS g H g' H') : SR K g' H' l σ :=
  ⟨S.len, fun i v e => by obtain ⟨x, e1, e2⟩ := S.at_ i v e; exact ⟨x, e1, e2.extS R E⟩⟩
/-- the slots of the block's own names forgotten -/
def wipeL (l : Loc) : List Nat → Loc
  | [] => l
  | v :: vs => (wipeL l vs).set v none
theorem wipeL_some {l : Loc} {i : Nat} {x : Val} : ∀ {vs : List Nat}, (wipeL l vs)[i]? = some (some x) → l[i]? = some (some x) ∧ i ∉ vs
  | [], h => ⟨h, by simp⟩
  | v :: vs, h => by
    unfold wipeL at h
    by_cases hi : v = i
    · subst hi
      by_cases hv : v < (wipeL l vs).length
      · rw [List.getElem?_set_self hv] at h; cases h
      · rw [List.getElem?_eq_none (by simpa using hv)] at h; cases h
    · rw [List.getElem?_set_ne hi] at h
      obtain ⟨h1, h2⟩ := wipeL_some h
      exact ⟨h1, by simp only [List.mem_cons, not_or]; exact ⟨fun e => hi e.symm, h2⟩⟩
theorem wipeL_len (l : Loc) : ∀ vs, (wipeL l vs).length = l.length
  | [] => rfl
  | v :: vs => by unfold wipeL; rw [List.length_set, wipeL_len l vs]
theorem SR.wipe {l : Loc} {σ : L2.St} (S : SR K g H l σ) (vs : List Nat) : SR K g H (wipeL l vs) (L2.wipe σ vs) := by
  refine ⟨by rw [wipeL_len, L2.wipe_length, S.len], fun i v e => ?_⟩
  obtain ⟨e1, n⟩ := wipeL_some e
  obtain ⟨x, e2, r⟩ := S.at_ i v e1
  exact ⟨x, by rw [L2.wipe_out n]; exact e2, r⟩
theorem wipe_wipe {σ : L2.St} {vs : List Nat} : ∀ {us : List Nat}, (∀ u ∈ us, u ∈ vs) → L2.wipe (L2.wipe σ us) vs = L2.wipe σ vs
  | [], _ => rfl
  | u :: us, h => by
    show L2.wipe ((L2.wipe σ us).set u none) vs = _
    rw [wipe_set (h u (List.mem_cons_self ..)), wipe_wipe fun w hw => h w (List.mem_cons_of_mem _ hw)]
end

/-! ### the block -/
open Classical in
noncomputable def lcL (t : Tg) (c : DenG Bool) (e : Den) (s : Src) : List Val → List Val → Loc → Hv → Res (List Val)
  | [], acc, _, h => if srcOk s h then .ok acc h else .fail
  | x :: r, acc, l, h => if srcOk s h then (match t x l h with
    | .ok l1 h1 => (match c l1 h1 with
      | .ok b h2 => if b = true then (match e l1 h2 with
        | .ok v h3 => lcL t c e s r (acc ++ [v]) l h3
        | _ => .fail) else lcL t c e s r acc l h2
      | _ => .fail)
    | _ => .fail) else .fail
/-- what becomes of the items: a list that nobody writes, or one of ours -/
def frozen (ys : List Val) (h : Hv) : Res Val := .ok (.lst ys) h
def ours (ys : List Val) (h : Hv) : Res Val := .ok (.ref h.length) (h ++ [.lst ys])
noncomputable def dLc (fin : List Val → Hv → Res Val) (vs : List Nat) (di : DenG Src) (t : Tg) (c : DenG Bool) (e : Den) : Den := fun l h => (di l h).bind fun s h1 => (lcL t c e s s.1 [] (wipeL l vs) h1).bind fin
def W0 : WX := fun _ _ _ _ => False
/-- what a list at a new place may become -/
def FinOk (K : PySem.W.Frag) (fin : List Val → Hv → Res Val) : Prop := ∀ {W : WX} {σ : L2.St} {g1 g2 : Gh} {H1 H : Hp} {h : Hv} {Q : VK} {D : Addr} {ys : List Val} {xs : List V},
  H1 D = none → (∀ b ∈ g1.r, ∃ o, H1 b = some o) → D ∈ g2.r → g2.r = D :: g1.r → H D = some (.lst xs) → Ext g1 H1 ⟨g2.m, g1.r⟩ H → HR K g2 H h → VRs K g2 H ys xs → After K W (vr K) σ g1 H1 Q (fin ys h) → Q (.ref D) H
theorem fin_frozen {K : PySem.W.Frag} : FinOk K frozen := by
  intro W σ g1 g2 H1 H h Q D ys xs nD al hD er eD E R r A
  have hr : ∀ b ∈ g1.r, b ∈ g2.r := fun b hb => by rw [er]; exact List.mem_cons_of_mem _ hb
  refine A ⟨g2.m, g1.r⟩ H (.ref D) E (R.less hr) ?_
  simp only [VR]
  refine ⟨D, xs, rfl, ?_, eD, r.own (g' := ⟨g2.m, g1.r⟩) (t := []) (by simp) (show ∀ a, ¬ g2.own a → ¬ (Gh.mk g2.m g1.r).own a from fun a n z => n (z.elim .inl fun z => .inr (hr a z)))⟩
  rintro (z | z)
  · exact R.dis D z hD
  · obtain ⟨o, e⟩ := al D z
    rw [nD] at e; cases e
theorem fin_ours {K : PySem.W.Frag} : FinOk K ours := by
  intro W σ g1 g2 H1 H h Q D ys xs nD al hD er eD E R r A
  have hr : ∀ b ∈ g1.r, b ∈ g2.r := fun b hb => by rw [er]; exact List.mem_cons_of_mem _ hb
  have nm : D ∉ g2.m := fun z => R.dis D z hD
  have nr : D ∉ g1.r := fun z => by obtain ⟨o, e⟩ := al D z; rw [nD] at e; cases e
  obtain ⟨t, em, n⟩ := E.m
  have em : g2.m = g1.m ++ t := em
  have E' : Ext g1 H1 ⟨g2.m ++ [D], g1.r⟩ H := ⟨⟨t ++ [D], by show g2.m ++ [D] = _; rw [em, List.append_assoc], fun b hb => by
    rcases List.mem_append.mp hb with hb | hb
    · exact n b hb
    · rw [List.mem_singleton.mp hb]; exact fre_none nD⟩, rfl, E.keepN, E.there⟩
  have hm : (Gh.mk (g2.m ++ [D]) g1.r).m = g2.m ++ [D] := rfl
  have ho : ∀ a, ¬ g2.own a → ¬ (Gh.mk (g2.m ++ [D]) g1.r).own a := fun a ha z => by
    rcases z with z | z
    · rcases List.mem_append.mp z with z | z
      · exact ha (.inl z)
      · exact ha (.inr (by rw [List.mem_singleton.mp z]; exact hD))
    · exact ha (.inr (hr a z))
  refine A ⟨g2.m ++ [D], g1.r⟩ H (.ref D) E' ⟨by simp [R.len], ?_, fun a ha => ?_, fun a ha => R.al a (hr a ha), fun i o a e1 e2 => ?_⟩ ?_
  · show (g2.m ++ [D]).Nodup
    refine List.nodup_append.mpr ⟨R.nd, by simp, fun a ha b hb => ?_⟩
    rw [List.mem_singleton.mp hb]
    rintro rfl
    exact nm ha
  · have ha : a ∈ g2.m ++ [D] := ha
    rcases List.mem_append.mp ha with ha | ha
    · exact fun z => R.dis a ha (hr a z)
    · rw [List.mem_singleton.mp ha]; exact nr
  · have e2 : (g2.m ++ [D])[i]? = some a := e2
    by_cases hi : i < h.length
    · rw [List.getElem?_append_left hi] at e1
      rw [List.getElem?_append_left (by rw [R.len]; exact hi)] at e2
      have q := R.obj i o a e1 e2
      cases o with
      | lst l => obtain ⟨xs, e, r⟩ := q; exact ⟨xs, e, r.own hm ho⟩
      | dic l => obtain ⟨xs, e, r⟩ := q; exact ⟨xs, e, r.1, r.2.own hm ho⟩
      | ins c f => obtain ⟨dx, gs, e, r⟩ := q; exact ⟨dx, gs, e, r.1, r.2.own hm ho⟩
      | dn l => obtain ⟨xs, ys, e, p, r1, r2⟩ := q; exact ⟨xs, ys, e, p, r1.own hm ho, r2.own hm ho⟩
      | tbl t => exact ⟨q.1, q.2.stay (fun ps e => e) (fun c o e nt hn => ⟨e, ho _ hn⟩)⟩
    · have hi' : i = h.length := by
        have := (List.getElem?_eq_some_iff.mp e1).1
        simp at this
        omega
      subst hi'
      rw [List.getElem?_append_right (Nat.le_refl _)] at e1
      rw [List.getElem?_append_right (by rw [R.len]; exact Nat.le_refl _)] at e2
      simp at e1
      rw [R.len] at e2
      simp at e2
      subst e1 e2
      exact ⟨xs, eD, r.own hm ho⟩
  · simp only [VR]
    refine ⟨D, rfl, ?_⟩
    show (g2.m ++ [D])[h.length]? = some D
    rw [← R.len]
    simp
section
variable {K : PySem.W.Frag}
theorem lc_red {W : WX} {fin : List Val → Hv → Res Val} (hfin : FinOk K fin) {vs : List Nat} {di : DenG Src} {t : Tg} {c : DenG Bool} {e : Den} {σ : L2.St} {H : Hp} {Q : VK} (z : tG K W (vr K) (dLc fin vs di t c e) σ H Q) :
    tLc (tI K W di) (tTc K vs t) (tG K W0 br c) (tG K W0 (vr K) e) vs σ H Q := by
  obtain ⟨g, l, h, S, R, A⟩ := z
  refine ⟨g, l, h, S, R, ?_⟩
  unfold dLc at A
  unfold AfterI
  cases ed : di l h with
  | exc x h1 => rw [ed] at A; exact A
  | fail => rw [ed] at A; exact A
  | ok s h1 =>
    rw [ed] at A
    simp only [Res.bind_ok] at A
    have ok1 : srcOk s h1 := by
      cases hs1 : s.1 with
      | nil =>
        rw [hs1] at A
        simp only [lcL] at A
        split at A
        · assumption
        · exact A.elim
      | cons x r =>
        rw [hs1] at A
        simp only [lcL] at A
        split at A
        · assumption
        · exact A.elim
    refine ⟨ok1, fun g1 H1 J E1 R1 hz sv D nD => ?_⟩
    have A := After.ext E1 A
    have al : ∀ b ∈ g1.r, ∃ o, H1 b = some o := fun b hb => R1.own_there (.inr hb)
    have S1 := S.ext R E1
    -- the new list is put aside
    have ES : ExtS g1 H1 ⟨g1.m, D :: g1.r⟩ (upd H1 D (.lst [])) := ⟨⟨[], by simp, by simp⟩, ⟨[D], rfl, fun b hb => by rw [List.mem_singleton.mp hb]; exact fre_none nD⟩, fun b o e _ hb => by rw [upd_ne (ne_of_none e nD)]; exact e⟩
    have RD : HR K ⟨g1.m, D :: g1.r⟩ (upd H1 D (.lst [])) h1 := by
      refine ⟨R1.len, R1.nd, fun a ha z => ?_, fun a ha => ?_, fun i o a e1 e2 => ?_⟩
      · rcases List.mem_cons.mp z with z | z
        · subst z; exact R1.fresh nD (.inl ha)
        · exact R1.dis a ha z
      · rcases List.mem_cons.mp ha with z | z
        · subst z; exact ⟨_, upd_same, trivial⟩
        · obtain ⟨ob, e, mo⟩ := R1.al a z
          exact ⟨ob, by rw [upd_ne (ne_of_none e nD)]; exact e, mo⟩
      · have q := R1.obj i o a e1 e2
        cases o with
        | lst l => obtain ⟨xs, e, r⟩ := q; exact ⟨xs, by rw [upd_ne (ne_of_none e nD)]; exact e, r.extS R1 ES⟩
        | dic l => obtain ⟨xs, e, r⟩ := q; exact ⟨xs, by rw [upd_ne (ne_of_none e nD)]; exact e, r.1, r.2.extS R1 ES⟩
        | ins c f => obtain ⟨dx, gs, e, r⟩ := q; exact ⟨dx, gs, by rw [upd_ne (ne_of_none e nD)]; exact e, r.1, r.2.extS R1 ES⟩
        | dn l => obtain ⟨xs, ys, e, p, r1, r2⟩ := q; exact ⟨xs, ys, by rw [upd_ne (ne_of_none e nD)]; exact e, p, r1.extS R1 ES, r2.extS R1 ES⟩
        | tbl t => exact ⟨q.1, q.2.stay (fun ps e => by rw [upd_ne (ne_of_none e nD)]; exact e) (fun c o e nt hn => ⟨by rw [upd_ne (ne_of_none e nD)]; exact e, ES.nown hn e nt⟩)⟩
    let Wd : Nat → Hp → Prop := fun i H => ∃ g2 h2 ys xs, H D = some (.lst xs) ∧ Ext ⟨g1.m, D :: g1.r⟩ (upd H1 D (.lst [])) g2 (upd H D (.lst [])) ∧ HR K g2 H h2 ∧ VRs K g2 H ys xs ∧ xs.length ≤ i ∧ i ≤ s.1.length ∧
      After K W (vr K) σ g1 H1 Q ((lcL t c e s (s.1.drop i) ys (wipeL l vs) h2).bind fin)
    refine ⟨fun i m H => m = s.1.length - i ∧ Wd i H, ⟨s.1.length, by simp, ⟨g1.m, D :: g1.r⟩, h1, [], [], upd_same, by rw [upd_upd]; exact Ext.refl, RD, VRs.nil, by simp, Nat.zero_le _, by simpa using A⟩, ?_⟩
    rintro i m H ⟨rfl, g2, h2, ys, xs, eD, E, R2, r, hl, hil, A⟩
    have hDr : D ∈ g2.r := by rw [E.r]; exact List.mem_cons_self ..
    have hDm : D ∉ g2.m := fun z => R2.dis D z hDr
    obtain ⟨tm, em, nm⟩ := E.m
    have em : g2.m = g1.m ++ tm := em
    have nm : ∀ b ∈ tm, Fre H1 b := fun b hb => by
      have q := nm b hb
      have hne : b ≠ D := by
        rintro rfl
        obtain ⟨ps, z⟩ := q _ upd_same
        cases z
      intro o z
      exact q o (by rw [upd_ne hne]; exact z)
    have keep : ∀ b o, H1 b = some o → (∀ ps, o ≠ .tbl ps) → b ∉ g1.m → H b = some o := fun b o e nt hb => by
      have hne := ne_of_none e nD
      have q := E.keepN b o (by rw [upd_ne hne]; exact e) nt hb
      rw [upd_ne hne] at q
      exact q
    have E2S : ExtS g1 H1 g2 H := ⟨⟨tm, em, nm⟩, ⟨[D], E.r, fun b hb => by rw [List.mem_singleton.mp hb]; exact fre_none nD⟩, fun b o e nt hb => keep b o e nt fun z => hb (.inl z)⟩
    have E2 : Ext g1 H1 ⟨g2.m, g1.r⟩ H := ⟨⟨tm, em, nm⟩, rfl, keep, fun b o e nt => by
      have hne := ne_of_none e nD
      obtain ⟨o', q, nt'⟩ := E.there b o (by rw [upd_ne hne]; exact e) nt
      rw [upd_ne hne] at q
      exact ⟨o', q, nt'⟩⟩
    have S2 : SR K g2 H (wipeL l vs) (wipe σ vs) := (S1.extS R1 E2S).wipe vs
    cases hd : s.1.drop i with
    | nil =>
      have hle : s.1.length ≤ i := List.drop_eq_nil_iff.mp hd
      rw [hd] at A
      simp only [lcL] at A
      split at A
      · rename_i ok
        exact .inl ⟨(sv g2 H h2 E2S R2 ok i).2 (Nat.le_antisymm hil hle), hfin nD al hDr E.r eD E2 R2 r A⟩
      · exact A.elim
    | cons v rest =>
      have hlt : i < s.1.length := by
        by_cases q : i < s.1.length
        · exact q
        · rw [List.drop_eq_nil_iff.mpr (by omega)] at hd; cases hd
      have hv : s.1[i]? = some v := by
        have q := congrArg List.head? hd
        rw [List.head?_drop] at q
        simpa using q
      have hr : s.1.drop (i + 1) = rest := by
        have q := congrArg List.tail hd
        rw [List.tail_drop] at q
        simpa using q
      rw [hd] at A
      simp only [lcL] at A
      split at A
      · rename_i ok
        obtain ⟨go, yl⟩ := (sv g2 H h2 E2S R2 ok i).1 v hv
        refine .inr ⟨go, Wd (i + 1), fun H' q => ⟨s.1.length - (i + 1), by omega, rfl, q⟩, fun x H' y => ?_⟩
        obtain ⟨E3, R3, rx⟩ := yl x H' y
        refine ⟨g2, wipeL l vs, h2, v, S2.ext R2 E3, R3, rx, ?_⟩
        cases et : t v (wipeL l vs) h2 with
        | exc x l1 h1 => rw [et] at A; exact A
        | fail => rw [et] at A; exact A
        | ok l3 h3 =>
          rw [et] at A
          simp only at A
          intro g4 H4 σ4 E4 R4 S4 w4
          refine ⟨w4.trans (wipe_wipe fun _ hu => hu), g4, l3, h3, S4, R4, ?_⟩
          cases ec : c l3 h3 with
          | exc x h1 => rw [ec] at A; exact A.elim
          | fail => rw [ec] at A; exact A.elim
          | ok b h5 =>
            rw [ec] at A
            simp only at A
            intro g5 H5 b' E5 R5 eb
            obtain rfl : b = b' := eb
            have E25 := (E3.trans E4).trans E5
            have keepD : ∀ {g6 : Gh} {H6 : Hp}, Ext g2 H g6 H6 → H6 D = some (.lst xs) := fun E6 => E6.keep D _ eD hDm
            cases b with
            | false =>
              rw [if_neg Bool.false_ne_true] at A ⊢
              exact ⟨g5, h5, ys, xs, keepD E25, E.trans (E25.reset hDm eD), R5, r.ext R2 E25, by omega, hlt, by rw [hr]; exact A⟩
            | true =>
              rw [if_pos rfl] at A ⊢
              refine ⟨g5, l3, h5, S4.ext R4 E5, R5, ?_⟩
              cases ee : e l3 h5 with
              | exc x h1 => rw [ee] at A; exact A.elim
              | fail => rw [ee] at A; exact A.elim
              | ok y h6 =>
                rw [ee] at A
                simp only at A
                intro g6 H6 xv E6 R6 rv
                have E26 := E25.trans E6
                have hD6 : D ∈ g6.r := by rw [E26.r]; exact hDr
                have k6 := keepD E26
                refine ⟨xs, k6, by omega, g6, h6, ys ++ [y], xs ++ [xv], upd_same, ?_, R6.reset hD6 k6 trivial trivial, ((r.ext R2 E26).append (.one rv)).reset hD6 k6 trivial, by simp; omega, hlt, by rw [hr]; exact A⟩
                rw [upd_upd]
                exact E.trans (E26.reset hDm eD)
      · exact A.elim
end
section
variable {X : Cx} {W : WX}
def GTs (X : Cx) (W : WX) (es : List Expr) (d : DenG Bool) : Prop := PTs X es (tG X.K W br d)
def dYes : DenG Bool := fun _ h => .ok true h
theorem gts_nil : GTs X W [] dYes := ⟨fun pins s σ H Q I ⟨g, l, h, S, R, A⟩ => (pts_nil (X := X)).run pins s σ H Q I (A g H true Ext.refl R rfl)⟩
theorem gts_one {c : Expr} {d : DenG Bool} (hc : GT X W c d) : GTs X W [c] d := pts_one hc
theorem ge_lc {fin : List Val → Hv → Res Val} (hfin : FinOk X.K fin) {elt tg iter : Expr} {ifs : List Expr} {scope : Scope} (own : List (Str × Nat)) {pos : Pos} {di : DenG Src} {t : Tg} {c : DenG Bool} {e : Den} (hc : X.calm = true) (hN : X.N.Nodup) (hi : GI X W tg iter di)
    (hg : ∀ (s : Shared) (H : Hp) (C : Addr) (cl : List (Str × Addr)) (fp : List Addr), GC (X.blk s H scope (compEnvC scope cl C X.env) fp) (own.map (·.2)) tg t) (ht : ∀ (s : Shared) (H : Hp) (C : Addr) (cl : List (Str × Addr)) (fp : List Addr), GTs (X.blk s H scope (compEnvC scope cl C X.env) fp) W0 ifs c)
    (he : ∀ (s : Shared) (H : Hp) (C : Addr) (cl : List (Str × Addr)) (fp : List Addr), GE (X.blk s H scope (compEnvC scope cl C X.env) fp) W0 elt e) (ok : blkC X.N X.env.scope scope own = true := by first | rfl | decide +kernel) (hs : ∀ x, foldedSetIterable iter X.env x = pure x := by intro _; rfl) :
    GE X W (.ListComp elt [⟨tg, iter, ifs, 0⟩] scope pos) (dLc fin (own.map (·.2)) di t c e) :=
  PE.imp (pe_lc (g := tTc X.K (own.map fun p : Str × Nat => p.2) t) (tt := tG X.K W0 br c) (te := tG X.K W0 (vr X.K) e) hc hN hi (blkOk_by ok) hg ht he hs) fun σ H Q z => lc_red hfin z
theorem gs_setLc {fin : List Val → Hv → Res Val} (hfin : FinOk X.K fin) (i : Nat) {y : Str} {py : Pos} {elt tg iter : Expr} {ifs : List Expr} {scope : Scope} (own : List (Str × Nat)) {pos spos : Pos} {di : DenG Src} {t : Tg} {c : DenG Bool} {e : Den} (hc : X.calm = true) (hN : X.N.Nodup) (hi : GI X W tg iter di)
    (hg : ∀ (s : Shared) (H : Hp) (C : Addr) (cl : List (Str × Addr)) (fp : List Addr), GC (X.blk s H scope (compEnvC scope cl C X.env) fp) (own.map (·.2)) tg t) (ht : ∀ (s : Shared) (H : Hp) (C : Addr) (cl : List (Str × Addr)) (fp : List Addr), GTs (X.blk s H scope (compEnvC scope cl C X.env) fp) W0 ifs c)
    (he : ∀ (s : Shared) (H : Hp) (C : Addr) (cl : List (Str × Addr)) (fp : List Addr), GE (X.blk s H scope (compEnvC scope cl C X.env) fp) W0 elt e)
    (hy : X.N[i]? = some y := by rfl) (hyl : X.env.scope.names.lookup y = some .local := by rfl) (hsw : swapsWith (.ListComp elt [⟨tg, iter, ifs, 0⟩] scope pos) (some (.Name y py)) spos.line X.env = pure true := by exact sw_true rfl rfl rfl (by decide +kernel))
    (ok : blkC X.N X.env.scope scope own = true := by first | rfl | decide +kernel) (hs : ∀ x, foldedSetIterable iter X.env x = pure x := by intro _; rfl) :
    GS X W (.Assign [.Name y py] (.ListComp elt [⟨tg, iter, ifs, 0⟩] scope pos) spos) (sAsg (dLc fin (own.map (·.2)) di t c e) (gName i)) := by
  refine PS.imp (ps_setLc (g := tTc X.K (own.map fun p : Str × Nat => p.2) t) (tt := tG X.K W0 br c) (te := tG X.K W0 (vr X.K) e) hc hN hy hyl hsw hi (blkOk_by ok) hg ht he hs) fun D σ H ⟨g, l, h, S, R, A⟩ => ?_
  refine lc_red hfin ?_
  refine tG_to S R A fun v h1 g1 H1 x E S1 R1 r1 A1 => ?_
  exact A1 g1 H1 _ Ext.refl R1 (S1.set i r1)
end
end GH
set_option Elab.async false
set_option linter.all false
set_option maxRecDepth 100000
set_option maxHeartbeats 1000000
set_option autoImplicit false
/-! Defs, calls, raise, try. -/
namespace GH
open PySem PySem.Spec PyProof.Rows L2
variable [TheWorld]

/-! ### what a def yields -/
def runDef (n : Nat) (body : Stm) (args : List Val) (h : Hv) : Res Val := match body (args.map some ++ List.replicate (n - args.length) none) h with
  | .nx _ h' => .ok .non h'
  | .rt v h' => .ok v h'
  | .exc e _ h' => .exc e h'
  | _ => .fail
/-- behind a call -/
def AfterC (K : PySem.W.Frag) (g : Gh) (H : Hp) (Q : VK) (E : XK) : Res Val → Prop
  | .ok v h' => ∀ g' H' x, Ext g H g' H' → HR K g' H' h' → VR K g' H' v x → Q x H'
  | .exc e h' => ∀ g' H' cls d, Ext g H g' H' → HR K g' H' h' → ER K g' H' e cls d → E cls d H'
  | .fail => False
abbrev DF := List Val → Hv → Res Val
def spG (K : PySem.W.Frag) (D : DF) (n : Nat) : Sp := fun vs H Q E => vs.length = n ∧ ∃ g h args, HR K g H h ∧ VRs K g H args vs ∧ AfterC K g H Q E (D args h)

/-! ### lists that are handed back are frozen, what is no longer reached is forgotten -/
mutual
def frz (f : Nat → Option Val) : Val → Option Val
  | .non => some .non
  | .bl b => some (.bl b)
  | .int i => some (.int i)
  | .str s => some (.str s)
  | .tup l => (frzs f l).map .tup
  | .lst l => (frzs f l).map .lst
  | .fz l => (frzs f l).map .fz
  | .ref i => f i
def frzs (f : Nat → Option Val) : List Val → Option (List Val)
  | [] => some []
  | v :: l => (frz f v).bind fun w => (frzs f l).map (w :: ·)
end
def frzN (h : Hv) (n0 : Nat) : Nat → Nat → Option Val
  | 0, i => if i < n0 then some (.ref i) else none
  | k + 1, i => if i < n0 then some (.ref i) else match h[i]? with
    | some (.lst l) => (frzs (frzN h n0 k) l).map .lst
    | _ => none
mutual
def below (n : Nat) : Val → Bool
  | .tup l => belows n l
  | .lst l => belows n l
  | .fz l => belows n l
  | .ref i => decide (i < n)
  | _ => true
def belows (n : Nat) : List Val → Bool
  | [] => true
  | v :: l => below n v && belows n l
end
def belowO (n : Nat) : Ob → Bool
  | .lst l => belows n l
  | .dic l => belows n (l.map (·.2))
  | .ins _ fs => belows n (fs.map (·.2))
  | .tbl _ => true
  | .dn l => belows n (l.map (·.1)) && belows n (l.map (·.2))
def kept (n : Nat) (h h' : Hv) : Prop := n ≤ h'.length ∧ ∀ i < n, h'[i]? = h[i]? ∨ ∀ o, h'[i]? = some o → belowO n o = true
open Classical in
noncomputable def tidy (r : Res Val) (h : Hv) : Res Val := match r with
  | .ok v h' => if kept h.length h h' then (match frz (frzN h' h.length h'.length) v with
    | some w => .ok w (h'.take h.length)
    | none => .fail) else .fail
  | .exc e h' => if kept h.length h h' ∧ e.fs = [] then .exc e (h'.take h.length) else .fail
  | .fail => .fail
section
variable {K : PySem.W.Frag} {g g' : Gh} {H H0 : Hp} {t : List Addr}
mutual
theorem VR.cut {n : Nat} (hn : n = g.m.length) (hm : g'.m = g.m ++ t) (ho : ∀ a, ¬ g'.own a → ¬ g.own a) : ∀ {v : Val} {x : V}, below n v = true → VR K g' H v x → VR K g H v x
  | .non, x, _, q => by simpa only [VR] using q
  | .bl b, x, _, q => by simpa only [VR] using q
  | .int i, x, _, q => by simpa only [VR] using q
  | .str s, x, _, q => by simpa only [VR] using q
  | .tup l, x, b, q => by
    simp only [VR] at q ⊢
    obtain ⟨a, xs, e, s, r⟩ := q
    exact ⟨a, xs, e, s, VRs.cut hn hm ho b r⟩
  | .lst l, x, b, q => by
    simp only [VR] at q ⊢
    obtain ⟨a, xs, e, n, s, r⟩ := q
    exact ⟨a, xs, e, ho a n, s, VRs.cut hn hm ho b r⟩
  | .fz l, x, b, q => by
    simp only [VR] at q ⊢
    obtain ⟨a, xs, e, s, r⟩ := q
    exact ⟨a, xs, e, s, VRs.cut hn hm ho b r⟩
  | .ref i, x, b, q => by
    simp only [VR] at q ⊢
    obtain ⟨a, e, h⟩ := q
    have hi : i < n := by simpa [below] using b
    exact ⟨a, e, by rw [hm, List.getElem?_append_left (by omega)] at h; exact h⟩
theorem VRs.cut {n : Nat} (hn : n = g.m.length) (hm : g'.m = g.m ++ t) (ho : ∀ a, ¬ g'.own a → ¬ g.own a) : ∀ {l : List Val} {xs : List V}, belows n l = true → VRs K g' H l xs → VRs K g H l xs
  | [], xs, _, q => by simpa only [VRs] using q
  | v :: l, xs, b, q => by
    simp only [VRs] at q ⊢
    obtain ⟨x, r, e, q1, q2⟩ := q
    have b : below n v = true ∧ belows n l = true := by simpa [belows] using b
    exact ⟨x, r, e, VR.cut hn hm ho b.1 q1, VRs.cut hn hm ho b.2 q2⟩
end
mutual
theorem VR.low {n : Nat} (hn : n = g.m.length) : ∀ {v : Val} {x : V}, VR K g H v x → below n v = true
  | .non, x, q => rfl
  | .bl b, x, q => rfl
  | .int i, x, q => rfl
  | .str s, x, q => rfl
  | .tup l, x, q => by
    simp only [VR] at q
    obtain ⟨a, xs, e, s, r⟩ := q
    exact VRs.low hn r
  | .lst l, x, q => by
    simp only [VR] at q
    obtain ⟨a, xs, e, n, s, r⟩ := q
    exact VRs.low hn r
  | .fz l, x, q => by
    simp only [VR] at q
    obtain ⟨a, xs, e, s, r⟩ := q
    exact VRs.low hn r
  | .ref i, x, q => by
    simp only [VR] at q
    obtain ⟨a, e, h⟩ := q
    have := (List.getElem?_eq_some_iff.mp h).1
    simp only [below, decide_eq_true_eq]
    omega
theorem VRs.low {n : Nat} (hn : n = g.m.length) : ∀ {l : List Val} {xs : List V}, VRs K g H l xs → belows n l = true
  | [], xs, q => rfl
  | v :: l, xs, q => by
    simp only [VRs] at q
    obtain ⟨x, r, e, q1, q2⟩ := q
    simp only [belows, VR.low hn q1, VRs.low hn q2, Bool.and_self]
end
theorem OR.low {n : Nat} (hn : n = g.m.length) {a : Addr} {o : Ob} (q : OR K g H a o) : belowO n o = true := by
  cases o with
  | lst l => obtain ⟨xs, e, r⟩ := q; exact r.low hn
  | dic l => obtain ⟨xs, e, r⟩ := q; exact r.2.low hn
  | ins c f => obtain ⟨dx, gs, e, r⟩ := q; exact r.2.low hn
  | tbl t => rfl
  | dn l => obtain ⟨xs, ys, e, p, r1, r2⟩ := q; simp only [belowO, r1.low hn, r2.low hn, Bool.and_true]
theorem OR.cut {n : Nat} (hn : n = g.m.length) (hm : g'.m = g.m ++ t) (ho : ∀ a, ¬ g'.own a → ¬ g.own a) {a : Addr} {o : Ob} (b : belowO n o = true) (q : OR K g' H a o) : OR K g H a o := by
  cases o with
  | lst l => obtain ⟨xs, e, r⟩ := q; exact ⟨xs, e, r.cut hn hm ho b⟩
  | dic l => obtain ⟨xs, e, r⟩ := q; exact ⟨xs, e, r.1, r.2.cut hn hm ho b⟩
  | ins c f => obtain ⟨dx, gs, e, r⟩ := q; exact ⟨dx, gs, e, r.1, r.2.cut hn hm ho b⟩
  | dn l => obtain ⟨xs, ys, e, p, r1, r2⟩ := q; exact ⟨xs, ys, e, p, r1.cut hn hm ho (Bool.and_eq_true_iff.mp b).1, r2.cut hn hm ho (Bool.and_eq_true_iff.mp b).2⟩
  | tbl t => exact ⟨q.1, q.2.stay (fun ps e => e) (fun c o e nt hn => ⟨e, ho _ hn⟩)⟩
mutual
theorem frz_ok {f : Nat → Option Val} (hf : ∀ i w x, f i = some w → VR K g' H (.ref i) x → VR K g H w x) (ho : ∀ a, ¬ g'.own a → ¬ g.own a) : ∀ {v w : Val} {x : V}, frz f v = some w → VR K g' H v x → VR K g H w x
  | .non, w, x, e, q => by simp only [frz, Option.some.injEq] at e; subst e; simpa only [VR] using q
  | .bl b, w, x, e, q => by simp only [frz, Option.some.injEq] at e; subst e; simpa only [VR] using q
  | .int i, w, x, e, q => by simp only [frz, Option.some.injEq] at e; subst e; simpa only [VR] using q
  | .str s, w, x, e, q => by simp only [frz, Option.some.injEq] at e; subst e; simpa only [VR] using q
  | .tup l, w, x, e, q => by
    simp only [frz, Option.map_eq_some_iff] at e
    obtain ⟨k, e, rfl⟩ := e
    simp only [VR] at q ⊢
    obtain ⟨a, xs, e2, s, r⟩ := q
    exact ⟨a, xs, e2, s, frzs_ok hf ho e r⟩
  | .lst l, w, x, e, q => by
    simp only [frz, Option.map_eq_some_iff] at e
    obtain ⟨k, e, rfl⟩ := e
    simp only [VR] at q ⊢
    obtain ⟨a, xs, e2, n, s, r⟩ := q
    exact ⟨a, xs, e2, ho a n, s, frzs_ok hf ho e r⟩
  | .fz l, w, x, e, q => by
    simp only [frz, Option.map_eq_some_iff] at e
    obtain ⟨k, e, rfl⟩ := e
    simp only [VR] at q ⊢
    obtain ⟨a, xs, e2, s, r⟩ := q
    exact ⟨a, xs, e2, s, frzs_ok hf ho e r⟩
  | .ref i, w, x, e, q => hf i w x e q
theorem frzs_ok {f : Nat → Option Val} (hf : ∀ i w x, f i = some w → VR K g' H (.ref i) x → VR K g H w x) (ho : ∀ a, ¬ g'.own a → ¬ g.own a) : ∀ {l k : List Val} {xs : List V}, frzs f l = some k → VRs K g' H l xs → VRs K g H k xs
  | [], k, xs, e, q => by simp only [frzs, Option.some.injEq] at e; subst e; simpa only [VRs] using q
  | v :: l, k, xs, e, q => by
    simp only [frzs, Option.bind_eq_some_iff, Option.map_eq_some_iff] at e
    obtain ⟨w, e1, k', e2, rfl⟩ := e
    simp only [VRs] at q ⊢
    obtain ⟨x, r, e3, q1, q2⟩ := q
    exact ⟨x, r, e3, frz_ok hf ho e1 q1, frzs_ok hf ho e2 q2⟩
end
theorem frzN_ok {h h' : Hv} (R : HR K g H0 h) (R' : HR K g' H h') (E : Ext g H0 g' H) (hm : g'.m = g.m ++ t) (ho : ∀ a, ¬ g'.own a → ¬ g.own a) : ∀ (k i : Nat) (w : Val) (x : V), frzN h' h.length k i = some w → VR K g' H (.ref i) x → VR K g H w x := by
  intro k
  have low : ∀ (i : Nat) (x : V), i < h.length → VR K g' H (.ref i) x → VR K g H (.ref i) x := fun i x hi q => by
    simp only [VR] at q ⊢
    obtain ⟨a, e, q⟩ := q
    exact ⟨a, e, by rw [hm, List.getElem?_append_left (by rw [R.len]; exact hi)] at q; exact q⟩
  induction k with
  | zero =>
    intro i w x e q
    simp only [frzN] at e
    split at e
    · rename_i hi
      cases e
      exact low i x hi q
    · cases e
  | succ k ih =>
    intro i w x e q
    simp only [frzN] at e
    split at e
    · rename_i hi
      cases e
      exact low i x hi q
    · rename_i hi
      split at e
      · rename_i l hl
        simp only [Option.map_eq_some_iff] at e
        obtain ⟨ys, e, rfl⟩ := e
        simp only [VR] at q
        obtain ⟨a, rfl, q⟩ := q
        obtain ⟨xs, e1, r⟩ := R'.obj i _ a hl q
        simp only [VR]
        refine ⟨a, xs, rfl, ?_, e1, frzs_ok ih ho e r⟩
        rintro (z | z)
        · obtain ⟨j, hj, ej⟩ := List.getElem_of_mem z
          have hj' : g'.m[j]? = some a := by
            rw [hm, List.getElem?_append_left hj, List.getElem?_eq_getElem hj, ej]
          have h1 := List.getElem?_eq_some_iff.mp q
          have h2 := List.getElem?_eq_some_iff.mp hj'
          obtain ⟨l1, p1⟩ := h1
          obtain ⟨l2, p2⟩ := h2
          have e3 : i = j := (List.getElem_inj R'.nd).mp (p1.trans p2.symm)
          rw [R.len] at hj
          omega
        · exact R'.dis a (List.mem_of_getElem? q) (by rw [E.r]; exact z)
      · cases e
theorem tidy_ok {h : Hv} {Q : VK} {E : XK} {r : Res Val} (R : HR K g H0 h) (A : AfterC K g H0 Q E (tidy r h)) : AfterC K g H0 Q E r := by
  have main : ∀ {g' : Gh} {H : Hp} {h' : Hv}, Ext g H0 g' H → HR K g' H h' → kept h.length h h' → Ext g H0 g H ∧ HR K g H (h'.take h.length) := fun {g' H h'} X R' kp => by
    obtain ⟨t, hm, nt⟩ := X.m
    have ho : ∀ a, ¬ g'.own a → ¬ g.own a := fun a n z => n (z.elim (fun z => .inl (by rw [hm]; exact List.mem_append_left _ z)) fun z => .inr (by rw [X.r]; exact z))
    refine ⟨⟨⟨[], by simp, by simp⟩, rfl, X.keepN, X.there⟩, ⟨?_, R.nd, R.dis, fun a ha => R'.al a (by rw [X.r]; exact ha), fun i o a e1 e2 => ?_⟩⟩
    · rw [List.length_take, Nat.min_eq_left kp.1]; exact R.len
    · have hi : i < h.length := by rw [← R.len]; exact (List.getElem?_eq_some_iff.mp e2).1
      rw [List.getElem?_take_of_lt hi] at e1
      have hq : OR K g' H a o := R'.obj i o a e1 (by rw [hm, List.getElem?_append_left (by rw [R.len]; exact hi)]; exact e2)
      refine OR.cut (n := h.length) R.len.symm hm ho ?_ hq
      rcases kp.2 i hi with z | z
      · rw [z] at e1
        exact (R.obj i o a e1 e2).low R.len.symm
      · exact z o e1
  cases r with
  | ok v h' =>
    intro g' H x X R' rv
    simp only [tidy] at A
    split at A
    · rename_i kp
      split at A
      · rename_i w ew
        obtain ⟨E1, R1⟩ := main X R' kp
        obtain ⟨t, hm, nt⟩ := X.m
        have ho : ∀ a, ¬ g'.own a → ¬ g.own a := fun a n z => n (z.elim (fun z => .inl (by rw [hm]; exact List.mem_append_left _ z)) fun z => .inr (by rw [X.r]; exact z))
        exact A g H x E1 R1 (frz_ok (frzN_ok R R' X hm ho _) ho ew rv)
      · exact A.elim
    · exact A.elim
  | exc e h' =>
    intro g' H cls d X R' re
    simp only [tidy] at A
    split at A
    · rename_i kp
      obtain ⟨E1, R1⟩ := main X R' kp.1
      refine A g H cls d E1 R1 ?_
      unfold ER at re ⊢
      rw [kp.2] at re ⊢
      exact re
    · exact A.elim
  | fail => exact A
end

/-! ### a def keeps what its body yields -/
abbrev WD (E : XK) : WX := fun cls d _ H => E cls d H
section
variable {P : Program} {w : World} {K : PySem.W.Frag} {mg : Str → Option Value} {base : Heap}
theorem fn_G {name qual : Str} {params : Arguments} {body : List Stmt} {scope : Scope} {f : Addr} {fd : FuncData} {N ps : List Str} {k : Nat} {d : Stm} {D : DF} {dvs : List V} {kws : List (Str × V)} (F : FunD K name qual params body scope dvs kws f fd) (S : FnScope N ps scope)
    (hD : ∀ args h, args.length = ps.length → D args h = runDef N.length d args h ∨ D args h = tidy (runDef N.length d args h) h)
    (hbody : ∀ (cdv : Value) (A : Around) (outer : List Env) (s : Shared) (H : Hp) (E : XK), Room k (A.deeper (envOfC qual scope s.heap.objs.size f cdv)) →
      PassesOwn (model P w) (A.deeper (envOfC qual scope s.heap.objs.size f cdv)) (envOfC qual scope s.heap.objs.size f cdv) (cxOf (L2.CX P w) P w K mg base N qual scope f cdv A outer s H E).xe →
      Takes (cxOf (L2.CX P w) P w K mg base N qual scope f cdv A outer s H E) (WD E) →
      GSs (cxOf (L2.CX P w) P w K mg base N qual scope f cdv A outer s H E) (WD E) body d) : FnOk P w K mg base (L2.CX P w) (k + 1) f fd ps (spG K D ps.length) := by
  refine F.ok S (fun vs H Q E h => h.1) (fun cdv A outer s H vs Q E hr h => ⟨tS K (WD E) d, hbody cdv A outer s H E hr (passes_of rfl) (takes_of rfl rfl rfl rfl), ?_⟩)
  obtain ⟨hl, g, h, args, R, r, A⟩ := h
  have A : AfterC K g H Q E (runDef N.length d args h) := by
    rcases hD args h (by rw [r.length, hl]) with e | e
    · rw [e] at A; exact A
    · rw [e] at A; exact tidy_ok R A
  refine ⟨g, args.map some ++ List.replicate (N.length - args.length) none, h, ?_, R, ?_⟩
  · unfold L2.start
    refine ⟨by simp [r.length], fun i v e => ?_⟩
    by_cases hi : i < args.length
    · rw [List.getElem?_append_left (by simpa using hi), List.getElem?_map] at e
      cases ea : args[i]? with
      | none => rw [ea] at e; cases e
      | some a =>
        rw [ea] at e
        cases e
        obtain ⟨x, e1, e2⟩ := r.get ea
        exact ⟨x, by rw [List.getElem?_append_left (by simpa [← r.length] using hi), List.getElem?_map, e1]; rfl, e2⟩
    · rw [List.getElem?_append_right (by simpa using hi), List.getElem?_replicate] at e
      split at e <;> cases e
  · unfold runDef at A
    cases e : d (args.map some ++ List.replicate (N.length - args.length) none) h with
    | nx l h1 =>
      rw [e] at A
      intro g' H' σ' X R' S'
      exact A g' H' .non X R' (by simp only [VR])
    | rt v h1 => rw [e] at A; exact A
    | exc x l h1 =>
      rw [e] at A
      intro g' H' σ' cls dd X R' S' re
      exact A g' H' cls dd X R' re
    | bk l h1 => rw [e] at A; exact False.elim A
    | ct l h1 => rw [e] at A; exact False.elim A
    | fail => rw [e] at A; exact A
end

/-! ### calls -/
def dCall (D : DF) (r : DenG (List Val)) : Den := fun l h => (r l h).bind fun vs h1 => D vs h1
section
variable {X : Cx} {W : WX}
theorem spG_of {D : DF} {n : Nat} {σ : L2.St} {g : Gh} {H : Hp} {h : Hv} {Q : VK} {args : List Val} {vs : List V} (hn : args.length = n) (R : HR X.K g H h) (r : VRs X.K g H args vs) (A : After X.K W (vr X.K) σ g H Q (D args h)) : spG X.K D n vs H Q (WE W σ) := by
  refine ⟨by rw [← r.length]; exact hn, g, h, args, R, r, ?_⟩
  cases e : D args h with
  | ok v h1 => rw [e] at A; exact A
  | exc x h1 => rw [e] at A; exact A
  | fail => rw [e] at A; exact A
def arity (n : Nat) (D : DF) : DF := fun args h => if args.length = n then D args h else .fail
theorem ge_call {D : DF} {k : Nat} {f : Addr} {fd : FuncData} {ps : List Str} {x : Str} {p pos : Pos} {e : Expr} {es : List Expr} {da : DenG (List Val)} (F : FnOk X.prog X.w X.K X.mg X.base (L2.CX X.prog X.w) k f fd ps (spG X.K D ps.length)) (hr : Room k X.A) (tk : Takes X W)
    (hm : X.mg x = some (.ref f)) (hk : PySem.W.keepIn X.K (.ref f) = true) (hb : Binds X.K fd ps []) (ha : GA X W (e :: es) da) (hn : ∀ l h vs h', da l h = .ok vs h' → vs.length = ps.length) (hg : Gl X x := by rfl) (hdb : (x == ("__debug__" : Str)) = false := by decide +kernel)
    (he : starEach (e :: es) X.env = (false, eval e X.env) :: starEach es X.env := by rfl) (hpl : (backTo pos (starEach es X.env)).any (·.1) = false := by rfl) : GE X W (.Call (.Name x p) (e :: es) [] pos) (dCall D da) := by
  refine PE.imp (pe_callS F hr hg hm hk hb (fun σ => passAt tk σ) ha hdb he hpl) fun σ H Q ⟨g, l, h, S, R, A⟩ => ?_
  refine ⟨g, l, h, S, R, ?_⟩
  unfold dCall at A
  cases ed : da l h with
  | ok vs h1 =>
    rw [ed] at A
    intro g' H' ws E R' r
    exact spG_of (hn l h vs h1 ed) R' r (After.ext E A)
  | exc x h1 => rw [ed] at A; exact A
  | fail => rw [ed] at A; exact A

/-! ### raise, try -/
def sRaise (c : List Nat) : Stm := fun l h => .exc ⟨c, []⟩ l h
theorem gs_raise (c : List Nat) {x m : Str} {j : Nat} {p p2 pos pos2 : Pos} (hc : X.calm = true) (tk : Takes X W) (q : PySem.W.excIn X.K (clsA X.K c) He.veBase "ValueError.__new__" = true) (gC : X.mg x = some (.ref (clsA X.K c))) (kC : PySem.W.keepIn X.K (.ref (clsA X.K c)) = true)
    (h1 : PySem.W.subIn X.K (.ref (clsA X.K c)) (.type "BaseException") = some true) (h2 : PySem.W.typeIn X.K (.ref (clsA X.K c)) = some (.type "type")) (hg : Gl X x := by rfl) (hdb : (x == ("__debug__" : Str)) = false := by decide +kernel) :
    GS X W (.Raise (some (.Call (.Name x p) [.Constant (.str m) j p2] [] pos)) none pos2) (sRaise c) := by
  refine PS.imp (ps_raise hc tk (pmk_own PySem.F.excBase_ValueError q gC kC (raises_own h1 h2) hg hdb)) fun D σ H ⟨g, l, h, S, R, A⟩ => ?_
  exact A g H σ _ none Ext.refl R S ⟨rfl, rfl⟩
def SRes.noExc (r : SRes) : SRes := match r with
  | .exc _ _ _ => .fail
  | r => r
@[simp] theorem SRes.noExc_nx (l : Loc) (h : Hv) : (SRes.nx l h).noExc = .nx l h := rfl
@[simp] theorem SRes.noExc_rt (v : Val) (h : Hv) : (SRes.rt v h).noExc = .rt v h := rfl
/-- body; where it raises what the class takes, the suite -/
def sTry (tbl : List (List Nat × Bool)) (body suite : Stm) : Stm := fun l h => match body l h with
  | .exc e l1 h1 => (match tbl.lookup e.c with
    | some true => (suite l1 h1).noExc
    | some false => .exc e l1 h1
    | none => .fail)
  | r => r
theorem AfterS.mono {K : PySem.W.Frag} {W W' : WX} {g : Gh} {H : Hp} {D : Ends} {r : SRes} (A : AfterS K W g H D r) (h : ∀ cls d σ H, W cls d σ H → W' cls d σ H) : AfterS K W' g H D r := by
  cases r with
  | exc e l h1 => exact fun g' H' σ' cls d E R S re => h _ _ _ _ (A g' H' σ' cls d E R S re)
  | nx l h1 => exact A
  | bk l h1 => exact A
  | ct l h1 => exact A
  | rt l h1 => exact A
  | fail => exact A
theorem gs_try (tbl : List (List Nat × Bool)) {x : Str} {c : Value} {body suite : List Stmt} {b₀ : Stmt} {np pos pos' : Pos} {db ds : Stm} (hs : X.stack = X.env :: X.outer) (hf : X.env.frame = some X.env.locals) (hc : Names X x c) (tk : Takes X W)
    (ht : ∀ p ∈ tbl, PySem.W.exmOne X.K (.ref (clsA X.K p.1)) c = some p.2)
    (hb : ∀ (W' : WX) (pn : List (Addr × Obj)) (xe : Value → Shared → Prop), Takes (X.tr pn xe) W' → PassesOwn (model X.prog X.w) X.A X.env xe → GSs (X.tr pn xe) W' body db)
    (hsu : ∀ (a : Addr) (pn : List (Addr × Obj)), GSs (X.suite a pn) W0 (b₀ :: suite) ds) :
    GS X W (.Try body [.ExceptHandler (some (.Name x np)) none (b₀ :: suite) pos'] [] [] pos) (sTry tbl db ds) := by
  refine PS.imp (ps_try_only (tb := fun W' => tS X.K W' db) (ts := fun a cls d => tS X.K W0 ds) hs hf hc tk hb (fun a oe cls d pn _ _ => hsu a _)) fun D σ H ⟨g, l, h, S, R, A⟩ => ?_
  refine ⟨g, l, h, S, R, ?_⟩
  unfold sTry at A
  cases e : db l h with
  | nx l1 h1 => rw [e] at A; exact A
  | bk l1 h1 => rw [e] at A; exact A
  | ct l1 h1 => rw [e] at A; exact A
  | rt l1 h1 => rw [e] at A; exact A
  | fail => rw [e] at A; exact A
  | exc x1 l1 h1 =>
    rw [e] at A
    simp only at A
    intro g' H' σ' cls d E R' S' re
    cases el : tbl.lookup x1.c with
    | none => rw [el] at A; exact A.elim
    | some b =>
      rw [el] at A
      have hm : ∃ y, (y, b) ∈ tbl ∧ y = x1.c := by
        have gen : ∀ (tb : List (List Nat × Bool)), tb.lookup x1.c = some b → ∃ y, (y, b) ∈ tb ∧ y = x1.c := by
          intro tb
          induction tb with
          | nil => intro z; cases z
          | cons p tb ih =>
            intro z
            rw [List.lookup_cons] at z
            split at z
            · rename_i q
              cases z
              exact ⟨p.1, List.mem_cons_self .., (by simpa using q : x1.c = p.1).symm⟩
            · obtain ⟨y, h1, h2⟩ := ih z
              exact ⟨y, List.mem_cons_of_mem _ h1, h2⟩
        exact gen tbl el
      obtain ⟨y, hy, rfl⟩ := hm
      have he := ht _ hy
      rw [← re.1] at he
      refine ⟨b, he, fun hb a na => ?_, fun hb => ?_⟩
      · subst hb
        have A2 : AfterS X.K W g' H' D (ds l1 h1).noExc := AfterS.ext E A
        refine ⟨g', l1, h1, S', R', ?_⟩
        cases es : ds l1 h1 with
        | exc x2 l2 h2 => rw [es] at A2; exact False.elim A2
        | nx l2 h2 => rw [es] at A2; exact A2
        | bk l2 h2 => rw [es] at A2; exact A2
        | ct l2 h2 => rw [es] at A2; exact A2
        | rt l2 h2 => rw [es] at A2; exact A2
        | fail => rw [es] at A2; exact A2
      · subst hb
        exact A g' H' σ' cls d E R' S' re
end
end GH
set_option Elab.async false
set_option linter.all false
set_option maxRecDepth 100000
set_option maxHeartbeats 1000000
set_option autoImplicit false
/-! ==, in, isinstance, slices, built-ins over lists, dicts. -/
namespace GH
open PySem PySem.Spec PyProof.Rows L2
variable [TheWorld]

/-! ### values as data -/
mutual
def pd : Val → PyData
  | .non => .none
  | .bl b => .bool b
  | .int i => .int i
  | .str s => .str (sOf s)
  | .tup l => .tuple (pds l)
  | .lst l => .list (pds l)
  | .fz l => .list (pds l)
  | .ref _ => .none
def pds : List Val → List PyData
  | [] => []
  | v :: l => pd v :: pds l
end
mutual
/-- no object of the heap in it, texts of proper signs -/
def okV : Val → Bool
  | .str s => s.all fun c => decide (c < 0x110000)
  | .tup l => okVs l
  | .lst l => okVs l
  | .fz l => okVs l
  | .ref _ => false
  | _ => true
def okVs : List Val → Bool
  | [] => true
  | v :: l => okV v && okVs l
end
mutual
def dpV : Val → Nat
  | .tup l => dpVs l + 1
  | .lst l => dpVs l + 1
  | .fz l => dpVs l + 1
  | _ => 0
def dpVs : List Val → Nat
  | [] => 0
  | v :: l => max (dpV v) (dpVs l)
end
mutual
theorem pd_depth : ∀ v : Val, (pd v).depth = dpV v
  | .non => rfl
  | .bl b => rfl
  | .int i => rfl
  | .str s => rfl
  | .tup l => by simp only [pd, PyData.depth, dpV, pds_depth l]
  | .lst l => by simp only [pd, PyData.depth, dpV, pds_depth l]
  | .fz l => by simp only [pd, PyData.depth, dpV, pds_depth l]
  | .ref i => rfl
theorem pds_depth : ∀ l : List Val, PyData.depthAll (pds l) = dpVs l
  | [] => rfl
  | v :: l => by simp only [pds, PyData.depthAll, dpVs, pd_depth v, pds_depth l]
end
mutual
theorem pd_lay : ∀ v : Val, okV v = true → (pd v).canLay0 = true
  | .non, _ => rfl
  | .bl b, _ => rfl
  | .int i, _ => rfl
  | .str s, h => by
    simp only [pd, PyData.canLay0, PyData.strOk, sOf]
    simpa [okV] using h
  | .tup l, h => by simp only [pd, PyData.canLay0]; exact pds_lay l h
  | .lst l, h => by simp only [pd, PyData.canLay0]; exact pds_lay l h
  | .fz l, h => by simp only [pd, PyData.canLay0]; exact pds_lay l h
  | .ref i, h => by cases h
theorem pds_lay : ∀ l : List Val, okVs l = true → PyData.canLayAll0 (pds l) = true
  | [], _ => rfl
  | v :: l, h => by
    have h : okV v = true ∧ okVs l = true := by simpa [okVs] using h
    simp only [pds, PyData.canLayAll0, pd_lay v h.1, pds_lay l h.2, Bool.and_self]
end
section
variable {K : PySem.W.Frag} {g : Gh} {H : Hp}
mutual
theorem VR.dp : ∀ {v : Val} {x : V}, okV v = true → VR K g H v x → Dp K H x (pd v)
  | .non, x, _, q => by simp only [VR] at q; subst q; exact .non
  | .bl b, x, _, q => by simp only [VR] at q; subst q; exact .bl b
  | .int i, x, _, q => by simp only [VR] at q; subst q; exact .int i
  | .str s, x, _, q => by simp only [VR] at q; subst q; exact .str _
  | .tup l, x, o, q => by
    simp only [VR] at q
    obtain ⟨a, xs, rfl, s, r⟩ := q
    exact .tup s (VRs.dp o r)
  | .lst l, x, o, q => by
    simp only [VR] at q
    obtain ⟨a, xs, rfl, _, s, r⟩ := q
    exact .lst (SqL.of s) (VRs.dp o r)
  | .fz l, x, o, q => by
    simp only [VR] at q
    obtain ⟨a, xs, rfl, s, r⟩ := q
    exact .lst s.sq (VRs.dp o r)
  | .ref i, x, o, q => by cases o
theorem VRs.dp : ∀ {l : List Val} {xs : List V}, okVs l = true → VRs K g H l xs → DpAll K H xs (pds l)
  | [], xs, _, q => by simp only [VRs] at q; subst q; exact .nil
  | v :: l, xs, o, q => by
    simp only [VRs] at q
    obtain ⟨x, r, rfl, q1, q2⟩ := q
    have o : okV v = true ∧ okVs l = true := by simpa [okVs] using o
    exact .cons (VR.dp o.1 q1) (VRs.dp o.2 q2)
end
end
def veq (a b : Val) : Bool := PyData.eqv (pd a) (pd b)
/-- a list of ours, read -/
def thaw (h : Hv) (v : Val) : Val := match v with
  | .ref i => match h[i]? with
    | some (.lst l) => .lst l
    | _ => v
  | v => v
theorem thaw_dp {K : PySem.W.Frag} {g : Gh} {H : Hp} {h : Hv} {v : Val} {x : V} (R : HR K g H h) (r : VR K g H v x) (o : okV (thaw h v) = true) : Dp K H x (pd (thaw h v)) := by
  cases v with
  | ref i =>
    simp only [thaw] at o ⊢
    split at o
    · rename_i l hl
      simp only [VR] at r
      obtain ⟨a, rfl, hm⟩ := r
      obtain ⟨xs, e1, e2⟩ := ref_at R hl hm
      exact .lst (SqL.of e1) (VRs.dp o e2)
    · cases o
  | _ => exact VR.dp o r
def eqOk (a b : Val) : Bool := okV a && okV b && decide (min (dpV a) (dpV b) ≤ 190)
def vEq (v u : Val) (h : Hv) : Res Val := match v, u with
  | .int i, .int j => .ok (.bl (decide (i = j))) h
  | .str a, .str b => .ok (.bl (decide (a = b))) h
  | v, u => if eqOk (thaw h v) (thaw h u) then .ok (.bl (veq (thaw h v) (thaw h u))) h else .fail
def vNe (v u : Val) (h : Hv) : Res Val := match v, u with
  | .int i, .int j => .ok (.bl (!decide (i = j))) h
  | .str a, .str b => .ok (.bl (!decide (a = b))) h
  | v, u => if eqOk (thaw h v) (thaw h u) then .ok (.bl (!veq (thaw h v) (thaw h u))) h else .fail
section
variable {X : Cx}
def rEqG (K : PySem.W.Frag) (neg : Bool) : R2 := fun x y H Q => ∃ d e, Dp K H x d ∧ Dp K H y e ∧ d.canLay0 = true ∧ e.canLay0 = true ∧ min d.depth e.depth ≤ 190 ∧ Q (.bl (if neg then !PyData.eqv d e else PyData.eqv d e)) H
theorem op_eqG (hu : X.A.units + 200 < cLine) : OpR X (compareOp .Eq) (rEqG X.K false) := by
  intro pins s σ H x y v u Q I rx ry h
  obtain ⟨d, e, hd, he, sd, se, hm, q⟩ := h
  obtain ⟨as, r1⟩ := Dp.reads I d x v hd rx
  obtain ⟨bs, r2⟩ := Dp.reads I e y u he ry
  exact SeqAt.compareEq_reads r1 r2 sd se (by omega) ⟨.bl _, H, I, rfl, q⟩
theorem op_neG (hu : X.A.units + 200 < cLine) : OpR X (compareOp .NotEq) (rEqG X.K true) := by
  intro pins s σ H x y v u Q I rx ry h
  obtain ⟨d, e, hd, he, sd, se, hm, q⟩ := h
  obtain ⟨as, r1⟩ := Dp.reads I d x v hd rx
  obtain ⟨bs, r2⟩ := Dp.reads I e y u he ry
  exact SeqAt.compareNe_reads r1 r2 sd se (by omega) ⟨.bl _, H, I, rfl, q⟩
theorem eqG_ok {W : WX} {g : Gh} {H : Hp} {h : Hv} {σ : L2.St} {v u : Val} {x y : V} {Q : VK} {neg : Bool} (R : HR X.K g H h) (rv : VR X.K g H v x) (ru : VR X.K g H u y)
    (A : After X.K W (vr X.K) σ g H Q (if eqOk (thaw h v) (thaw h u) then .ok (.bl (if neg then !veq (thaw h v) (thaw h u) else veq (thaw h v) (thaw h u))) h else .fail)) : rEqG X.K neg x y H Q := by
  split at A
  · rename_i o
    simp only [eqOk, Bool.and_eq_true, decide_eq_true_eq] at o
    exact ⟨_, _, thaw_dp R rv o.1.1, thaw_dp R ru o.1.2, pd_lay _ o.1.1, pd_lay _ o.1.2, by rw [pd_depth, pd_depth]; exact o.2, A g H _ Ext.refl R (by simp only [VR]; rfl)⟩
  · exact A.elim
theorem og_eq (hu : X.A.units + 200 < cLine) : OpG X (compareOp .Eq) vEq := by
  refine ⟨_, op_eq.or (op_eqG hu), fun W g H h σ v u x y Q R rv ru A => ?_⟩
  unfold vEq at A
  split at A
  · simp only [VR] at rv ru
    subst rv ru
    refine .inl ⟨rfl, ?_⟩
    rename_i i j
    have e : decide (V.int i = V.int j) = decide (i = j) := by by_cases q : i = j <;> simp [q]
    rw [e]
    exact A g H _ Ext.refl R (by simp only [VR])
  · simp only [VR] at rv ru
    subst rv ru
    refine .inl ⟨rfl, ?_⟩
    rename_i i j
    have e : decide (V.str (sOf i) = V.str (sOf j)) = decide (i = j) := by
      by_cases q : i = j
      · simp [q]
      · have : ¬ V.str (sOf i) = V.str (sOf j) := fun z => q (sOf_inj (V.str.inj z))
        simp [q, this]
    rw [e]
    exact A g H _ Ext.refl R (by simp only [VR])
  · exact .inr (eqG_ok (neg := false) R rv ru A)
theorem og_ne (hu : X.A.units + 200 < cLine) : OpG X (compareOp .NotEq) vNe := by
  refine ⟨_, op_ne.or (op_neG hu), fun W g H h σ v u x y Q R rv ru A => ?_⟩
  unfold vNe at A
  split at A
  · simp only [VR] at rv ru
    subst rv ru
    refine .inl ⟨rfl, ?_⟩
    rename_i i j
    have e : decide (V.int i = V.int j) = decide (i = j) := by by_cases q : i = j <;> simp [q]
    rw [e]
    exact A g H _ Ext.refl R (by simp only [VR])
  · simp only [VR] at rv ru
    subst rv ru
    refine .inl ⟨rfl, ?_⟩
    rename_i i j
    have e : decide (V.str (sOf i) = V.str (sOf j)) = decide (i = j) := by
      by_cases q : i = j
      · simp [q]
      · have : ¬ V.str (sOf i) = V.str (sOf j) := fun z => q (sOf_inj (V.str.inj z))
        simp [q, this]
    rw [e]
    exact A g H _ Ext.refl R (by simp only [VR])
  · exact .inr (eqG_ok (neg := true) R rv ru A)

/-! ### in -/
def inSeq (x : Val) (l : List Val) : Bool := l.any fun z => veq z x
def inOk (x : Val) (l : List Val) : Bool := okV x && okVs l && decide (min (dpVs l) (dpV x) ≤ 190)
/-- x in c -/
def isIn (x c : Val) (h : Hv) : Res Bool := match c with
  | .str s => match x with
    | .str [a] => .ok (s.contains a) h
    | _ => .fail
  | c => match seqOf h c with
    | some l => if inOk (thaw h x) l then .ok (inSeq (thaw h x) l) h else .fail
    | none => match dicOf h c, keyOf x with
      | some l, some _ => .ok (dGet l x).isSome h
      | _, _ => .fail
def vIn (x c : Val) (h : Hv) : Res Val := (isIn x c h).bind fun b h1 => .ok (.bl b) h1
def vNotIn (x c : Val) (h : Hv) : Res Val := (isIn x c h).bind fun b h1 => .ok (.bl (!b)) h1
def rInG (K : PySem.W.Frag) (neg : Bool) : R2 := fun x y H Q => ∃ d ds, Dp K H x d ∧ (Dp K H y (.list ds) ∨ Dp K H y (.tuple ds)) ∧ d.canLay0 = true ∧ PyData.canLayAll0 ds = true ∧ min (PyData.depthAll ds) d.depth ≤ 190 ∧
  Q (.bl (if neg then !(ds.any fun z => PyData.eqv z d) else ds.any fun z => PyData.eqv z d)) H
theorem op_inG (hu : X.A.units + 200 < cLine) : OpR X (compareOp .In) (rInG X.K false) := by
  intro pins s σ H x y v u Q I rx ry h
  obtain ⟨d, ds, hd, he | he, sd, se, hm, q⟩ := h
  · obtain ⟨as, r1⟩ := Dp.reads I d x v hd rx
    obtain ⟨bs, r2⟩ := Dp.reads I (.list ds) y u he ry
    exact SeqAt.in_list_reads r2 r1 se sd (by omega) ⟨.bl _, H, I, rfl, q⟩
  · obtain ⟨as, r1⟩ := Dp.reads I d x v hd rx
    obtain ⟨bs, r2⟩ := Dp.reads I (.tuple ds) y u he ry
    exact SeqAt.in_tuple_reads r2 r1 se sd (by omega) ⟨.bl _, H, I, rfl, q⟩
theorem op_notInG (hu : X.A.units + 200 < cLine) : OpR X (compareOp .NotIn) (rInG X.K true) := by
  intro pins s σ H x y v u Q I rx ry h
  obtain ⟨d, ds, hd, he | he, sd, se, hm, q⟩ := h
  · obtain ⟨as, r1⟩ := Dp.reads I d x v hd rx
    obtain ⟨bs, r2⟩ := Dp.reads I (.list ds) y u he ry
    exact SeqAt.notIn_list_reads r2 r1 se sd (by omega) ⟨.bl _, H, I, rfl, q⟩
  · obtain ⟨as, r1⟩ := Dp.reads I d x v hd rx
    obtain ⟨bs, r2⟩ := Dp.reads I (.tuple ds) y u he ry
    exact SeqAt.notIn_tuple_reads r2 r1 se sd (by omega) ⟨.bl _, H, I, rfl, q⟩
def rInS (neg : Bool) : R2 := fun x y H Q => ∃ (c : Nat) (z : Str), x = .str ⟨#[c]⟩ ∧ y = .str z ∧ Q (.bl (if neg then !decide (c ∈ z.cps.toList) else decide (c ∈ z.cps.toList))) H
def rInDc (neg : Bool) : R2 := fun x y H Q => ∃ a o, y = .ref a ∧ DGet H a x o ∧ Q (.bl (if neg then !o.isSome else o.isSome)) H
theorem op_inD' (hu : X.A.units + 200 < cLine) : OpR X (compareOp .In) (rInDc false) := by
  intro pins s σ H x y v u Q I rx ry h
  obtain ⟨a, o, rfl, g, q⟩ := h
  obtain rfl : u = Value.ref a := ry
  exact d_in (by omega) I g rx fun s' I' => ⟨.bl _, H, I', rfl, q⟩
theorem op_notInD' (hu : X.A.units + 200 < cLine) : OpR X (compareOp .NotIn) (rInDc true) := by
  intro pins s σ H x y v u Q I rx ry h
  obtain ⟨a, o, rfl, g, q⟩ := h
  obtain rfl : u = Value.ref a := ry
  exact d_notIn (by omega) I g rx fun s' I' => ⟨.bl _, H, I', rfl, q⟩
theorem any_pds (x : Val) : ∀ l : List Val, ((pds l).any fun z => PyData.eqv z (pd x)) = inSeq x l
  | [] => rfl
  | v :: l => by simp only [pds, List.any_cons, inSeq, veq, any_pds x l]
theorem seqOf_dp {K : PySem.W.Frag} {g : Gh} {H : Hp} {h : Hv} {v : Val} {x : V} {l : List Val} (R : HR K g H h) (r : VR K g H v x) (e : seqOf h v = some l) (o : okVs l = true) : Dp K H x (.list (pds l)) ∨ Dp K H x (.tuple (pds l)) := by
  obtain ⟨a, xs, rfl, s, rs⟩ := seqOf_ok R r e
  rcases s with s | s
  · exact .inl (.lst s (VRs.dp o rs))
  · exact .inr (.tup s (VRs.dp o rs))
theorem isIn_ok {W : WX} {g : Gh} {H : Hp} {h : Hv} {σ : L2.St} {v u : Val} {x y : V} {Q : VK} (neg : Bool) (R : HR X.K g H h) (rv : VR X.K g H v x) (ru : VR X.K g H u y)
    (A : After X.K W (vr X.K) σ g H Q ((isIn v u h).bind fun b h1 => .ok (.bl (if neg then !b else b)) h1)) : rInS neg x y H Q ∨ rInG X.K neg x y H Q ∨ rInDc neg x y H Q := by
  unfold isIn at A
  split at A
  · rename_i s
    split at A
    · rename_i a
      simp only [VR] at rv ru
      subst rv ru
      refine .inl ⟨a, _, rfl, rfl, ?_⟩
      have e : decide (a ∈ (sOf s).cps.toList) = s.contains a := by rw [Bool.eq_iff_iff]; exact ⟨fun z => by simpa [sOf] using of_decide_eq_true z, fun z => decide_eq_true (by simpa [sOf] using z)⟩
      rw [e]
      exact A g H _ Ext.refl R (by simp only [VR])
    · exact A.elim
  · split at A
    · rename_i l hl
      split at A
      · rename_i o
        simp only [inOk, Bool.and_eq_true, decide_eq_true_eq] at o
        refine .inr (.inl ⟨pd (thaw h v), pds l, thaw_dp R rv o.1.1, seqOf_dp R ru hl o.1.2, pd_lay _ o.1.1, pds_lay _ o.1.2, by rw [pds_depth, pd_depth]; exact o.2, ?_⟩)
        rw [any_pds]
        exact A g H _ Ext.refl R (by simp only [VR])
      · exact A.elim
    · split at A
      · rename_i l k hl hk
        obtain ⟨i, a, ks, rfl, rfl, hm, hi, ha, d⟩ := dicOf_ok R ru hl
        obtain ⟨d1, d2⟩ := DR.get hk d
        have A : After X.K W (vr X.K) σ g H Q (.ok (.bl (if neg then !(dGet l v).isSome else (dGet l v).isSome)) h) := A
        rw [key_V rv hk]
        have hs : (valV ks k).isSome = (dGet l v).isSome := by
          cases e : dGet l v with
          | none => rw [d2 e]; rfl
          | some w => obtain ⟨z, e1, _⟩ := d1 w e; rw [e1]; rfl
        refine .inr (.inr ⟨a, _, rfl, DGet.k ha, ?_⟩)
        rw [hs]
        exact A g H _ Ext.refl R (by simp only [VR])
      · exact A.elim
theorem og_in (hu : X.A.units + 200 < cLine) : OpG X (compareOp .In) vIn :=
  ⟨_, (show OpR X (compareOp .In) (rInS false) from op_in_sign).or ((op_inG hu).or (op_inD' hu)), fun W g H h σ v u x y Q R rv ru A => isIn_ok false R rv ru A⟩
theorem og_notIn (hu : X.A.units + 200 < cLine) : OpG X (compareOp .NotIn) vNotIn :=
  ⟨_, (show OpR X (compareOp .NotIn) (rInS true) from op_notIn_sign).or ((op_notInG hu).or (op_notInD' hu)), fun W g H h σ v u x y Q R rv ru A => isIn_ok true R rv ru A⟩
end

/-! ### isinstance -/
inductive Ty where
  | non | bool | int | str | tuple | list | dict
  deriving DecidableEq
def Ty.name : Ty → String
  | .non => "NoneType" | .bool => "bool" | .int => "int" | .str => "str" | .tuple => "tuple" | .list => "list" | .dict => "dict"
def tyOf (h : Hv) : Val → Option Ty
  | .non => some .non
  | .bl _ => some .bool
  | .int _ => some .int
  | .str _ => some .str
  | .tup _ => some .tuple
  | .lst _ => some .list
  | .fz _ => some .list
  | .ref i => match h[i]? with
    | some (.lst _) => some .list
    | some (.dic _) => some .dict
    | _ => none
def isiB (a b : Ty) : Bool := decide (a = b) || (decide (a = .bool) && decide (b = .int))
theorem kitB_ok : ∀ a b : Ty, b ≠ .non → kitB a.name b.name = some (isiB a b) := by
  intro a b hb
  cases a <;> cases b <;> first | exact absurd rfl hb | decide +kernel
theorem tyOf_ok {K : PySem.W.Frag} {g : Gh} {H : Hp} {h : Hv} {v : Val} {x : V} {t : Ty} (R : HR K g H h) (r : VR K g H v x) (e : tyOf h v = some t) : TyX K H x (.type t.name) := by
  cases v with
  | non => simp only [tyOf, Option.some.injEq] at e; subst e; simp only [VR] at r; subst r; exact .base .non
  | bl b => simp only [tyOf, Option.some.injEq] at e; subst e; simp only [VR] at r; subst r; exact .base (.bl b)
  | int b => simp only [tyOf, Option.some.injEq] at e; subst e; simp only [VR] at r; subst r; exact .base (.int b)
  | str b => simp only [tyOf, Option.some.injEq] at e; subst e; simp only [VR] at r; subst r; exact .base (.str _)
  | tup l =>
    simp only [tyOf, Option.some.injEq] at e
    subst e
    simp only [VR] at r
    obtain ⟨a, xs, rfl, s, _⟩ := r
    rcases s with (s | ⟨o, s⟩) | ⟨o, its, n, hk, hc, _⟩
    · exact .base (.tup s)
    · exact .fTuple s
    · exact .kTuple hk hc
  | lst l =>
    simp only [tyOf, Option.some.injEq] at e
    subst e
    simp only [VR] at r
    obtain ⟨a, xs, rfl, _, s, _⟩ := r
    exact .base (.lst s)
  | fz l =>
    simp only [tyOf, Option.some.injEq] at e
    subst e
    simp only [VR] at r
    obtain ⟨a, xs, rfl, s, _⟩ := r
    rcases s with ⟨o, s⟩ | ⟨o, its, n, hk, hc, _⟩
    · exact .base (.frz s)
    · exact .kList hk hc
  | ref i =>
    simp only [VR] at r
    obtain ⟨a, rfl, hm⟩ := r
    simp only [tyOf] at e
    split at e
    · rename_i l hl
      cases e
      obtain ⟨xs, e1, _⟩ := ref_at R hl hm
      exact .base (.lst e1)
    · rename_i l hl
      cases e
      obtain ⟨xs, e1, _⟩ := ref_at R hl hm
      exact .base (.dK e1)
    · cases e
def dIsi (t : Ty) (d : Den) : Den := fun l h => (d l h).bind fun v h1 => match tyOf h1 v with
  | some a => .ok (.bl (isiB a t)) h1
  | none => .fail
section
variable {X : Cx} {W : WX}
/-- isinstance(e, T), T a built-in type by its name -/
theorem ge_isi (t : Ty) {e : Expr} {d : Den} {x y : Str} {p q pos : Pos} (he : GE X W e d) (hm : X.mg x = none) (hmt : X.mg y = none) (ht : t ≠ .non := by decide) (hg : Gl X x := by rfl) (hgt : Gl X y := by rfl) (hv : bootBuiltins x = some (.builtin "isinstance") := by decide +kernel) (hvt : bootBuiltins y = some (.type t.name) := by decide +kernel)
    (hn : x ≠ "__name__" := by decide +kernel) (hdb : (x == ("__debug__" : Str)) = false := by decide +kernel) (hnt : y ≠ "__name__" := by decide +kernel) (hdbt : (y == ("__debug__" : Str)) = false := by decide +kernel)
    (hs : starEach [e, .Name y q] X.env = (false, eval e X.env) :: starEach [.Name y q] X.env := by rfl) (hs2 : starEach [.Name y q] X.env = (false, eval (.Name y q) X.env) :: starEach [] X.env := by rfl) (hpl : (backTo pos (starEach [.Name y q] X.env)).any (·.1) = false := by rfl) :
    GE X W (.Call (.Name x p) [e, .Name y q] [] pos) (dIsi t d) := by
  have hy : PE X (.Name y q) (tC (.ty t.name)) := pe_bltn hgt hmt hvt rfl hnt hdbt
  refine PE.imp (pe_callB call_isi hg hm hv (pa_cons he (pa_cons hy pa_nil hs2) hs) hn hdb hs hpl) fun σ H Q ⟨g, l, h, S, R, A⟩ => ?_
  refine tG_of S R A fun v h1 g1 H1 x E S1 R1 r1 A1 => ?_
  show rIsi X.K [x, .ty t.name] H1 Q
  cases et : tyOf h1 v with
  | none => rw [et] at A1; exact A1.elim
  | some a =>
    rw [et] at A1
    exact ⟨x, _, _, _, isiB a t, rfl, .ty _, tyOf_ok R1 r1 et, kit_ty (kitB_ok a t ht), A1 g1 H1 _ Ext.refl R1 (by simp only [VR])⟩

/-! ### slices -/
def cut {α : Type} (l : List α) (lo hi : Option Int) : List α := (l.drop (HT.sIx l.length 0 lo)).take (HT.sIx l.length l.length hi - HT.sIx l.length 0 lo)
abbrev DO := Loc → Hv → Res (Option Int)
def oNone : DO := fun _ h => .ok none h
def oSome (d : Den) : DO := fun l h => (d l h).bind fun v h1 => match v with
  | .int i => .ok (some i) h1
  | _ => .fail
abbrev orl : Gh → Hp → Option Int → Option Int → Prop := fun _ _ a b => a = b
def GO (X : Cx) (W : WX) (e : Option Expr) (d : DO) : Prop := PO X e (tG X.K W orl d)
theorem PO.imp {e : Option Expr} {t t' : TO} (p : PO X e t) (h : ∀ σ H Q, t' σ H Q → t σ H Q) : PO X e t' := ⟨fun pins s σ H Q I q => p.run pins s σ H Q I (h σ H Q q)⟩
theorem go_none : GO X W none oNone := PO.imp po_none fun σ H Q ⟨g, l, h, S, R, A⟩ => A g H none Ext.refl R rfl
theorem go_some {e : Expr} {d : Den} (he : GE X W e d) : GO X W (some e) (oSome d) := by
  refine PO.imp (po_some he) fun σ H Q ⟨g, l, h, S, R, A⟩ => ?_
  refine tG_of S R A fun v h1 g1 H1 x E S1 R1 r1 A1 => ?_
  cases v with
  | int i =>
    simp only [VR] at r1
    exact ⟨i, r1, A1 g1 H1 _ Ext.refl R1 rfl⟩
  | _ => exact A1.elim
def vCut (v : Val) (lo hi : Option Int) (h : Hv) : Res Val := match v with
  | .tup l => .ok (.tup (cut l lo hi)) h
  | .str s => if s.length ≤ lineN then .ok (.str (cut s lo hi)) h else .fail
  | v => match lstOf h v with
    | some l => .ok (.lst (cut l lo hi)) h
    | none => .fail
def dCut (d : Den) (lo hi : DO) : Den := fun l h => (d l h).bind fun v h1 => (lo l h1).bind fun a h2 => (hi l h2).bind fun b h3 => vCut v a b h3
theorem VRs.cut' {K : PySem.W.Frag} {g : Gh} {H : Hp} {l : List Val} {xs : List V} (r : VRs K g H l xs) (lo hi : Option Int) : VRs K g H (GH.cut l lo hi) (cutV xs lo hi) := by
  unfold GH.cut cutV
  rw [← r.length]
  exact (r.drop _).take _
theorem cut_all {α : Type} (l : List α) {lo hi : Option Int} (h : HT.sIx l.length 0 lo = 0 ∧ HT.sIx l.length l.length hi = l.length) : cut l lo hi = l := by
  unfold cut
  rw [h.1, h.2]
  simp
end
end GH
set_option Elab.async false
set_option linter.all false
set_option maxRecDepth 100000
set_option maxHeartbeats 1000000
set_option autoImplicit false
/-! Slices, built-in functions of one argument, methods of lists and dicts, stores. -/
namespace GH
open PySem PySem.Spec PyProof.Rows L2
variable [TheWorld]

section
variable {X : Cx} {W : WX}
theorem cutS_eq (s : List Nat) (lo hi : Option Int) : cutS (sOf s) lo hi = sOf (cut s lo hi) := by
  unfold cutS cut sOf
  simp [Str.length]
theorem ge_cut {e : Expr} {d : Den} {lo hi : Option Expr} {dl dh : DO} {pos p2 : Pos} (he : GE X W e d) (hl : GO X W lo dl) (hh : GO X W hi dh) : GE X W (.Subscript e (.Slice lo hi none p2) pos) (dCut d dl dh) := by
  refine PE.imp (pe_slice (sl_list.or (sl_tupA.or sl_str)) he hl hh) fun σ H Q ⟨g, l, h, S, R, A⟩ => ?_
  refine tG_of S R A fun v h1 g1 H1 x E S1 R1 r1 A1 => ?_
  refine tG_of S1 R1 A1 fun a h2 g2 H2 a' E2 S2 R2 e2 A2 => ?_
  refine tG_of S2 R2 A2 fun b h3 g3 H3 b' E3 S3 R3 e3 A3 => ?_
  obtain rfl : a = a' := e2
  obtain rfl : b = b' := e3
  have r := (r1.ext R1 E2).ext R2 E3
  unfold vCut at A3
  split at A3
  · rename_i k
    simp only [VR] at r
    obtain ⟨p, xs, rfl, s, rs⟩ := r
    refine .inr (.inl ⟨p, xs, rfl, s, fun hw => ?_, fun _ q nq => ?_⟩)
    · refine A3 g3 H3 _ Ext.refl R3 ?_
      rw [cut_all k (by rw [rs.length]; exact hw)]
      simp only [VR]
      exact ⟨p, xs, rfl, s, rs⟩
    · obtain ⟨E4, R4⟩ := R3.grow (o := .tup (cutV xs a b)) nq
      refine A3 g3 _ (.ref q) E4 R4 ?_
      simp only [VR]
      exact ⟨q, _, rfl, SqT.of upd_same, (rs.cut' a b).ext R3 E4⟩
  · rename_i k
    split at A3
    · rename_i hl
      simp only [VR] at r
      subst r
      refine .inr (.inr ⟨_, rfl, by rw [sOf_len]; exact line_ok hl, ?_⟩)
      rw [cutS_eq]
      exact A3 g3 H3 _ Ext.refl R3 (by simp only [VR])
    · exact A3.elim
  · split at A3
    · rename_i k hk
      obtain ⟨p, xs, rfl, s, rs⟩ := lstOf_ok R3 r hk
      refine .inl ⟨p, xs, rfl, SqL.of s, fun q nq => ?_⟩
      obtain ⟨E4, R4⟩ := R3.grow (o := .lst (cutV xs a b)) nq
      refine A3 g3 _ (.ref q) E4 R4 ?_
      simp only [VR]
      exact ⟨q, _, rfl, R3.fresh nq, upd_same, (rs.cut' a b).ext R3 E4⟩
    · exact A3.elim
/-- a list reversed: xs[::-1] -/
def vRev (v : Val) (h : Hv) : Res Val := match lstOf h v with
  | some l => .ok (.lst l.reverse) h
  | none => .fail
def dFn (f : Val → Hv → Res Val) (d : Den) : Den := fun l h => (d l h).bind f
theorem ge_rev {e : Expr} {d : Den} {k : Nat} {p1 p2 p3 pos : Pos} (he : GE X W e d) : GE X W (.Subscript e (.Slice none none (some (.UnaryOp .USub (.Constant (.int 1) k p1) p2)) p3) pos) (dFn vRev d) := by
  refine PE.imp (pe_revL he) fun σ H Q ⟨g, l, h, S, R, A⟩ => ?_
  refine tG_of S R A fun v h1 g1 H1 x E S1 R1 r1 A1 => ?_
  unfold vRev at A1
  split at A1
  · rename_i k hk
    obtain ⟨p, xs, rfl, s, rs⟩ := lstOf_ok R1 r1 hk
    refine ⟨p, xs, rfl, SqL.of s, fun q nq => ?_⟩
    obtain ⟨E4, R4⟩ := R1.grow (o := .lst xs.reverse) nq
    refine A1 g1 _ (.ref q) E4 R4 ?_
    simp only [VR]
    exact ⟨q, _, rfl, R1.fresh nq, upd_same, rs.reverse.ext R1 E4⟩
  · exact A1.elim

/-! ### f(e) -/
def C1 (X : Cx) (f : Value) (d : Val → Hv → Res Val) : Prop := ∃ r, CallR X f r ∧ ∀ (W : WX) (g : Gh) (H : Hp) (h : Hv) (σ : L2.St) (v : Val) (x : V) (Q : VK), HR X.K g H h → VR X.K g H v x → After X.K W (vr X.K) σ g H Q (d v h) → r [x] H Q
theorem ge_b1 {id : String} {f : Val → Hv → Res Val} {e : Expr} {d : Den} {x : Str} {p pos : Pos} (hf : C1 X (.builtin id) f) (he : GE X W e d) (hm : X.mg x = none) (hg : Gl X x := by rfl) (hv : bootBuiltins x = some (.builtin id) := by decide +kernel) (hn : x ≠ "__name__" := by decide +kernel) (hdb : (x == ("__debug__" : Str)) = false := by decide +kernel)
    (hst : starEach [e] X.env = (false, eval e X.env) :: starEach [] X.env := by rfl) (hpl : (backTo pos (starEach [] X.env)).any (·.1) = false := by rfl) : GE X W (.Call (.Name x p) [e] [] pos) (dFn f d) := by
  obtain ⟨r, hc, hr⟩ := hf
  refine PE.imp (pe_callB hc hg hm hv (pa_cons he pa_nil hst) hn hdb hst hpl) fun σ H Q ⟨g, l, h, S, R, A⟩ => ?_
  exact tG_of S R A fun v h1 g1 H1 x E S1 R1 r1 A1 => hr W g1 H1 h1 σ v x Q R1 r1 A1
theorem ge_t1 {T : String} {f : Val → Hv → Res Val} {e : Expr} {d : Den} {x : Str} {p pos : Pos} (hf : C1 X (.type T) f) (he : GE X W e d) (hm : X.mg x = none) (hg : Gl X x := by rfl) (hv : bootBuiltins x = some (.type T) := by decide +kernel) (hn : x ≠ "__name__" := by decide +kernel) (hdb : (x == ("__debug__" : Str)) = false := by decide +kernel)
    (hst : starEach [e] X.env = (false, eval e X.env) :: starEach [] X.env := by rfl) (hpl : (backTo pos (starEach [] X.env)).any (·.1) = false := by rfl) : GE X W (.Call (.Name x p) [e] [] pos) (dFn f d) := by
  obtain ⟨r, hc, hr⟩ := hf
  refine PE.imp (pe_callTy hc hg hm hv (pa_cons he pa_nil hst) hn hdb hst hpl) fun σ H Q ⟨g, l, h, S, R, A⟩ => ?_
  exact tG_of S R A fun v h1 g1 H1 x E S1 R1 r1 A1 => hr W g1 H1 h1 σ v x Q R1 r1 A1
def vAbs (v : Val) (h : Hv) : Res Val := match v with
  | .int i => .ok (.int (if i < 0 then -i else i)) h
  | _ => .fail
theorem c1_abs : C1 X (.builtin "abs") vAbs := ⟨_, call_abs, fun W g H h σ v x Q R r A => by
  unfold vAbs at A
  split at A
  · simp only [VR] at r
    subst r
    exact ⟨_, rfl, A g H _ Ext.refl R (by simp only [VR])⟩
  · exact A.elim⟩
def vInt (v : Val) (h : Hv) : Res Val := match v with
  | .int i => .ok (.int i) h
  | .bl b => .ok (.int (if b then 1 else 0)) h
  | _ => .fail
theorem c1_int : C1 X (.type "int") vInt := ⟨_, call_int1, fun W g H h σ v x Q R r A => by
  unfold vInt at A
  split at A
  · simp only [VR] at r
    subst r
    exact .inl ⟨_, rfl, A g H _ Ext.refl R (by simp only [VR])⟩
  · simp only [VR] at r
    subst r
    exact .inr ⟨_, rfl, A g H _ Ext.refl R (by simp only [VR])⟩
  · exact A.elim⟩
def intsOf : List Val → Option (List Int)
  | [] => some []
  | .int i :: l => (intsOf l).map (i :: ·)
  | _ :: _ => none
def blsOf : List Val → Option (List Bool)
  | [] => some []
  | .bl i :: l => (blsOf l).map (i :: ·)
  | _ :: _ => none
theorem intsOf_ok {K : PySem.W.Frag} {g : Gh} {H : Hp} : ∀ {l : List Val} {ns : List Int} {xs : List V}, intsOf l = some ns → VRs K g H l xs → xs = ns.map V.int
  | [], ns, xs, e, r => by simp only [intsOf, Option.some.injEq] at e; subst e; simp only [VRs] at r; exact r
  | .int i :: l, ns, xs, e, r => by
    simp only [intsOf, Option.map_eq_some_iff] at e
    obtain ⟨ms, e, rfl⟩ := e
    simp only [VRs, VR] at r
    obtain ⟨x, xs', rfl, rfl, r⟩ := r
    rw [intsOf_ok e r]; rfl
theorem blsOf_ok {K : PySem.W.Frag} {g : Gh} {H : Hp} : ∀ {l : List Val} {ns : List Bool} {xs : List V}, blsOf l = some ns → VRs K g H l xs → xs = ns.map V.bl
  | [], ns, xs, e, r => by simp only [blsOf, Option.some.injEq] at e; subst e; simp only [VRs] at r; exact r
  | .bl i :: l, ns, xs, e, r => by
    simp only [blsOf, Option.map_eq_some_iff] at e
    obtain ⟨ms, e, rfl⟩ := e
    simp only [VRs, VR] at r
    obtain ⟨x, xs', rfl, rfl, r⟩ := r
    rw [blsOf_ok e r]; rfl
def vSum (v : Val) (h : Hv) : Res Val := match lstOf h v with
  | some l => match intsOf l with
    | some ns => .ok (.int ns.sum) h
    | none => .fail
  | none => .fail
theorem c1_sum (hc : X.calm = true) : C1 X (.builtin "sum") vSum := ⟨_, cr_sum hc, fun W g H h σ v x Q R r A => by
  unfold vSum at A
  split at A
  · rename_i l hl
    split at A
    · rename_i ns hn
      obtain ⟨a, xs, rfl, s, rs⟩ := lstOf_ok R r hl
      have e := intsOf_ok hn rs
      subst e
      exact ⟨a, ns, rfl, SqL.of s, A g H _ Ext.refl R (by simp only [VR])⟩
    · exact A.elim
  · exact A.elim⟩
def vAll (v : Val) (h : Hv) : Res Val := match lstOf h v with
  | some l => match blsOf l with
    | some ns => .ok (.bl (ns.all id)) h
    | none => .fail
  | none => .fail
def vAny (v : Val) (h : Hv) : Res Val := match lstOf h v with
  | some l => match blsOf l with
    | some ns => .ok (.bl (ns.any id)) h
    | none => .fail
  | none => .fail
theorem c1_all (hc : X.calm = true) : C1 X (.builtin "all") vAll := ⟨_, cr_all hc, fun W g H h σ v x Q R r A => by
  unfold vAll at A
  split at A
  · rename_i l hl
    split at A
    · rename_i ns hn
      obtain ⟨a, xs, rfl, s, rs⟩ := lstOf_ok R r hl
      have e := blsOf_ok hn rs
      subst e
      exact ⟨a, ns, rfl, SqL.of s, A g H _ Ext.refl R (by simp only [VR])⟩
    · exact A.elim
  · exact A.elim⟩
theorem c1_any (hc : X.calm = true) : C1 X (.builtin "any") vAny := ⟨_, cr_any hc, fun W g H h σ v x Q R r A => by
  unfold vAny at A
  split at A
  · rename_i l hl
    split at A
    · rename_i ns hn
      obtain ⟨a, xs, rfl, s, rs⟩ := lstOf_ok R r hl
      have e := blsOf_ok hn rs
      subst e
      exact ⟨a, ns, rfl, SqL.of s, A g H _ Ext.refl R (by simp only [VR])⟩
    · exact A.elim
  · exact A.elim⟩
def vTuple (v : Val) (h : Hv) : Res Val := match seqOf h v with
  | some l => .ok (.tup l) h
  | none => .fail
theorem c1_tuple : C1 X (.type "tuple") vTuple := ⟨_, call_tuple_of, fun W g H h σ v x Q R r A => by
  unfold vTuple at A
  split at A
  · rename_i l hl
    obtain ⟨a, xs, rfl, s, rs⟩ := seqOf_ok R r hl
    rcases s with s | s
    · refine ⟨a, xs, rfl, .inl ⟨s, fun q nq => ?_⟩⟩
      obtain ⟨E4, R4⟩ := R.grow (o := .tup xs) nq
      refine A g _ (.ref q) E4 R4 ?_
      simp only [VR]
      exact ⟨q, _, rfl, SqT.of upd_same, rs.ext R E4⟩
    · refine ⟨a, xs, rfl, .inr ⟨s, A g H _ Ext.refl R ?_⟩⟩
      simp only [VR]
      exact ⟨a, xs, rfl, s, rs⟩
  · exact A.elim⟩
def vList (v : Val) (h : Hv) : Res Val := match seqOf h v with
  | some l => .ok (.lst l) h
  | none => .fail
theorem c1_list : C1 X (.type "list") vList := ⟨_, call_list_of, fun W g H h σ v x Q R r A => by
  unfold vList at A
  split at A
  · rename_i l hl
    obtain ⟨a, xs, rfl, s, rs⟩ := seqOf_ok R r hl
    refine ⟨a, xs, rfl, s, fun q nq => ?_⟩
    obtain ⟨E4, R4⟩ := R.grow (o := .lst xs) nq
    refine A g _ (.ref q) E4 R4 ?_
    simp only [VR]
    exact ⟨q, _, rfl, R.fresh nq, upd_same, rs.ext R E4⟩
  · exact A.elim⟩
/-- .. that is written later on -/
def vListM (v : Val) (h : Hv) : Res Val := match seqOf h v with
  | some l => .ok (.ref h.length) (h ++ [.lst l])
  | none => .fail
theorem push_ok {W : WX} {σ : L2.St} {g : Gh} {H : Hp} {h : Hv} {Q : VK} {ob : Ob} {o : HO} (R : HR X.K g H h) (A : After X.K W (vr X.K) σ g H Q (.ok (.ref h.length) (h ++ [ob]))) {q : Addr} (nq : H q = none)
    (ok : ∀ E : Ext g H ⟨g.m ++ [q], g.r⟩ (upd H q o), OR X.K ⟨g.m ++ [q], g.r⟩ (upd H q o) q ob) : Q (.ref q) (upd H q o) := by
  have E : Ext g H ⟨g.m ++ [q], g.r⟩ (upd H q o) := ⟨⟨[q], rfl, fun b hb => by rw [List.mem_singleton.mp hb]; exact fre_none nq⟩, rfl, fun b u e _ hb => by rw [upd_ne (ne_of_none e nq)]; exact e, fun b u e nt => ⟨u, by rw [upd_ne (ne_of_none e nq)]; exact e, nt⟩⟩
  obtain ⟨_, R1⟩ := R.push (o := o) (ob := ob) nq (ok E)
  refine A _ _ (.ref q) E R1 ?_
  simp only [VR]
  refine ⟨q, rfl, ?_⟩
  show (g.m ++ [q])[h.length]? = some q
  rw [← R.len]
  simp
theorem c1_listM : C1 X (.type "list") vListM := ⟨_, call_list_of, fun W g H h σ v x Q R r A => by
  unfold vListM at A
  split at A
  · rename_i l hl
    obtain ⟨a, xs, rfl, s, rs⟩ := seqOf_ok R r hl
    exact ⟨a, xs, rfl, s, fun q nq => push_ok R A nq fun E => ⟨xs, upd_same, rs.ext R E⟩⟩
  · exact A.elim⟩
/-- dict(d): a copy -/
def vDict (v : Val) (h : Hv) : Res Val := match dicOf h v with
  | some l => .ok (.ref h.length) (h ++ [.dic l])
  | none => .fail
theorem c1_dict : C1 X (.type "dict") vDict := ⟨_, call_dictD, fun W g H h σ v x Q R r A => by
  unfold vDict at A
  split at A
  · rename_i l hl
    obtain ⟨i, a, ks, rfl, rfl, hm, hi, ha, d⟩ := dicOf_ok R r hl
    exact ⟨a, ks, rfl, .inl ha, fun q nq => push_ok R A nq fun E => ⟨ks, upd_same, d.1, d.2.ext R E⟩⟩
  · exact A.elim⟩

/-! ### methods -/
def isLst (h : Hv) (v : Val) : Bool := (lstOf h v).isSome
/-- x.append(e): the receiver stands first -/
def vAppend (x v : Val) (h : Hv) : Res Val := match x with
  | .ref i => match h[i]? with
    | some (.lst l) => if l.length < lineN then .ok .non (h.set i (.lst (l ++ [v]))) else .fail
    | _ => .fail
  | _ => .fail
def dMeth1 (ok : Hv → Val → Bool) (f : Val → Val → Hv → Res Val) (o e : Den) : Den := fun l h => (o l h).bind fun x h1 => if ok h1 x = true then (e l h1).bind fun v h2 => f x v h2 else .fail
theorem lst_ty {K : PySem.W.Frag} {g : Gh} {H : Hp} {h : Hv} {v : Val} {x : V} (R : HR K g H h) (r : VR K g H v x) (e : isLst h v = true) : tyV K "list" x H := by
  unfold isLst at e
  obtain ⟨l, hl⟩ := Option.isSome_iff_exists.mp e
  obtain ⟨a, xs, rfl, s, _⟩ := lstOf_ok R r hl
  exact .inl ⟨rfl, xs, SqL.of s⟩
def M1R (X : Cx) (T id : String) (ok : Hv → Val → Bool) (f : Val → Val → Hv → Res Val) : Prop := (∀ (g : Gh) (H : Hp) (h : Hv) (v : Val) (x : V), HR X.K g H h → VR X.K g H v x → ok h v = true → tyV X.K T x H) ∧
  ∃ r, MtR X id r ∧ ∀ (W : WX) (g : Gh) (H : Hp) (h : Hv) (σ : L2.St) (v u : Val) (x y : V) (Q : VK), HR X.K g H h → VR X.K g H v x → VR X.K g H u y → After X.K W (vr X.K) σ g H Q (f v u h) → r x [y] H Q
theorem ge_meth1 {T id : String} {name : Str} {ok : Hv → Val → Bool} {f : Val → Val → Hv → Res Val} {o e : Expr} {dx de : Den} {apos cpos : Pos} (hf : M1R X T id ok f) (pa : PlainAttrs T) (slot : Slot T name id) (hty : typeOf (.builtin id) = pure (.type "method_descriptor")) (ho : GE X W o dx) (he : GE X W e de)
    (hbase : attributeBase o name X.env (eval o X.env) = eval o X.env := by rfl)
    (hfew : ((backTo cpos (starEach [e] X.env)).all (fun x => !x.1) && (backToKw cpos (keywordEach [] X.env)).all (fun x => x.1.isSome)
      && decide (([e] : List Expr).length + ([] : List Keyword).length + (if ([] : List Keyword).isEmpty then 0 else 1) < 30)) = true := by rfl)
    (hline : (apos.endLine == cpos.line) = true := by rfl) (hs : starEach [e] X.env = (false, eval e X.env) :: starEach [] X.env := by rfl) (hplain : (backTo cpos (starEach [] X.env)).any (·.1) = false := by rfl) :
    GE X W (.Call (.Attribute o name apos) [e] [] cpos) (dMeth1 ok f dx de) := by
  obtain ⟨hty2, r, hc, hr⟩ := hf
  refine PE.imp (pe_bm pa slot hty hc ho (pa_cons he pa_nil hs) hbase hfew hline hs hplain) fun σ H Q ⟨g, l, h, S, R, A⟩ => ?_
  refine tG_of S R A fun v h1 g1 H1 x E S1 R1 r1 A1 => ?_
  split at A1
  · rename_i ok1
    refine ⟨hty2 g1 H1 h1 v x R1 r1 ok1, ?_⟩
    exact tG_of S1 R1 A1 fun u h2 g2 H2 y E2 S2 R2 r2 A2 => hr W g2 H2 h2 σ v u x y Q R2 (r1.ext R1 E2) r2 A2
  · exact A1.elim
theorem m1_append : M1R X "list" "list.append" isLst vAppend := ⟨fun g H h v x R r e => lst_ty R r e, _, mt_append, fun W g H h σ v u x y Q R rv ru A => by
  unfold vAppend at A
  split at A
  · rename_i i
    split at A
    · rename_i l hl
      split at A
      · rename_i hz
        simp only [VR] at rv
        obtain ⟨a, rfl, hm⟩ := rv
        obtain ⟨xs, e1, rs⟩ := ref_at R hl hm
        refine ⟨a, xs, y, rfl, rfl, e1, by rw [← rs.length]; exact line_lt hz, ?_⟩
        obtain ⟨E, R1⟩ := R.write (ob := .lst (l ++ [u])) (o' := .lst (xs ++ [y])) hm fun E => ⟨_, upd_same, (rs.ext R E).append (.one (ru.ext R E))⟩
        exact A g _ .non E R1 (by simp only [VR])
      · exact A.elim
    · exact A.elim
  · exact A.elim⟩
theorem ge_append {o e : Expr} {dx de : Den} {apos cpos : Pos} (ho : GE X W o dx) (he : GE X W e de) (hbase : attributeBase o "append" X.env (eval o X.env) = eval o X.env := by rfl)
    (hfew : ((backTo cpos (starEach [e] X.env)).all (fun x => !x.1) && (backToKw cpos (keywordEach [] X.env)).all (fun x => x.1.isSome)
      && decide (([e] : List Expr).length + ([] : List Keyword).length + (if ([] : List Keyword).isEmpty then 0 else 1) < 30)) = true := by rfl)
    (hline : (apos.endLine == cpos.line) = true := by rfl) (hs : starEach [e] X.env = (false, eval e X.env) :: starEach [] X.env := by rfl) (hplain : (backTo cpos (starEach [] X.env)).any (·.1) = false := by rfl) :
    GE X W (.Call (.Attribute o "append" apos) [e] [] cpos) (dMeth1 isLst vAppend dx de) := ge_meth1 m1_append PySem.F.plainAttrs_list PySem.F.slot_list_append PySem.F.type_list_append ho he hbase hfew hline hs hplain
/-- x.extend(e) -/
def vExtend (x v : Val) (h : Hv) : Res Val := match x with
  | .ref i => match h[i]?, seqOf h v with
    | some (.lst l), some k => if l.length + k.length ≤ lineN then .ok .non (h.set i (.lst (l ++ k))) else .fail
    | _, _ => .fail
  | _ => .fail
def rExtT (K : PySem.W.Frag) : V → List V → Hp → VK → Prop := fun x vs H Q => ∃ l b xs zs, x = .ref l ∧ vs = [.ref b] ∧ H l = some (.lst xs) ∧ SqT K H b zs ∧ xs.length + zs.length ≤ sizeLine ∧ Q .non (upd H l (.lst (xs ++ zs)))
theorem m1_extend_l : M1R X "list" "list.extend" isLst (fun x v h => if (lstOf h v).isSome then vExtend x v h else .fail) := ⟨fun g H h v x R r e => lst_ty R r e, _, mt_extend, fun W g H h σ v u x y Q R rv ru A => by
  dsimp only at A
  split at A
  · rename_i hs
    obtain ⟨k, hk⟩ := Option.isSome_iff_exists.mp hs
    have hk2 : seqOf h u = some k := by cases u <;> first | exact hk | (simp [lstOf] at hk)
    unfold vExtend at A
    split at A
    · rename_i i
      split at A
      · rename_i l k' hl hk'
        rw [hk2] at hk'
        cases hk'
        split at A
        · rename_i hz
          simp only [VR] at rv
          obtain ⟨a, rfl, hm⟩ := rv
          obtain ⟨xs, e1, rs⟩ := ref_at R hl hm
          obtain ⟨b, zs, rfl, s2, rz⟩ := lstOf_ok R ru hk
          refine ⟨a, b, xs, zs, rfl, rfl, e1, s2, by rw [← rs.length, ← rz.length]; exact line_ok hz, ?_⟩
          obtain ⟨E, R1⟩ := R.write (ob := .lst (l ++ k)) (o' := .lst (xs ++ zs)) hm fun E => ⟨_, upd_same, (rs.append rz).ext R E⟩
          exact A g _ .non E R1 (by simp only [VR])
        · exact A.elim
      · exact A.elim
    · exact A.elim
  · exact A.elim⟩
/-- x.pop() -/
def vPop (x : Val) (h : Hv) : Res Val := match x with
  | .ref i => match h[i]? with
    | some (.lst l) => match l.getLast? with
      | some v => .ok v (h.set i (.lst l.dropLast))
      | none => .fail
    | _ => .fail
  | _ => .fail
def dMeth0 (ok : Hv → Val → Bool) (f : Val → Hv → Res Val) (o : Den) : Den := fun l h => (o l h).bind fun x h1 => if ok h1 x = true then f x h1 else .fail
theorem ge_meth0 {T id : String} {name : Str} {ok : Hv → Val → Bool} {f : Val → Hv → Res Val} {o : Expr} {dx : Den} {apos cpos : Pos} {r : V → List V → Hp → VK → Prop} (pa : PlainAttrs T) (slot : Slot T name id) (hty : typeOf (.builtin id) = pure (.type "method_descriptor")) (hc : MtR X id r)
    (hty2 : ∀ (g : Gh) (H : Hp) (h : Hv) (v : Val) (x : V), HR X.K g H h → VR X.K g H v x → ok h v = true → tyV X.K T x H)
    (hr : ∀ (W : WX) (g : Gh) (H : Hp) (h : Hv) (σ : L2.St) (v : Val) (x : V) (Q : VK), HR X.K g H h → VR X.K g H v x → After X.K W (vr X.K) σ g H Q (f v h) → r x [] H Q) (ho : GE X W o dx)
    (hbase : attributeBase o name X.env (eval o X.env) = eval o X.env := by rfl) (hline : (apos.endLine == cpos.line) = true := by rfl) : GE X W (.Call (.Attribute o name apos) [] [] cpos) (dMeth0 ok f dx) := by
  refine PE.imp (pe_bm0 pa slot hty hc ho hbase hline) fun σ H Q ⟨g, l, h, S, R, A⟩ => ?_
  refine tG_of S R A fun v h1 g1 H1 x E S1 R1 r1 A1 => ?_
  split at A1
  · rename_i ok1
    exact ⟨hty2 g1 H1 h1 v x R1 r1 ok1, hr W g1 H1 h1 σ v x Q R1 r1 A1⟩
  · exact A1.elim
theorem VRs.dropLast {K : PySem.W.Frag} {g : Gh} {H : Hp} {l : List Val} {xs : List V} (r : VRs K g H l xs) : VRs K g H l.dropLast xs.dropLast := by
  rw [List.dropLast_eq_take, List.dropLast_eq_take, r.length]
  exact r.take _
theorem ge_pop {o : Expr} {dx : Den} {apos cpos : Pos} (ho : GE X W o dx) (hbase : attributeBase o "pop" X.env (eval o X.env) = eval o X.env := by rfl) (hline : (apos.endLine == cpos.line) = true := by rfl) : GE X W (.Call (.Attribute o "pop" apos) [] [] cpos) (dMeth0 isLst vPop dx) :=
  ge_meth0 PySem.F.plainAttrs_list PySem.F.slot_list_pop PySem.F.type_list_pop mt_pop (fun g H h v x R r e => lst_ty R r e) (fun W g H h σ v x Q R rv A => by
    unfold vPop at A
    split at A
    · rename_i i
      split at A
      · rename_i l hl
        split at A
        · rename_i w hw
          simp only [VR] at rv
          obtain ⟨a, rfl, hm⟩ := rv
          obtain ⟨xs, e1, rs⟩ := ref_at R hl hm
          rw [List.getLast?_eq_getElem?] at hw
          obtain ⟨y, hy, ry⟩ := rs.get hw
          refine ⟨a, xs, y, rfl, rfl, e1, by rw [← rs.length]; exact hy, ?_⟩
          obtain ⟨E, R1⟩ := R.write (ob := .lst l.dropLast) (o' := .lst xs.dropLast) hm fun E => ⟨_, upd_same, rs.dropLast.ext R E⟩
          exact A g _ y E R1 (ry.ext R E)
        · exact A.elim
      · exact A.elim
    · exact A.elim) ho hbase hline
/-- d.get(k), d.get(k, x) -/
def isDic (h : Hv) (v : Val) : Bool := (dicOf h v).isSome
def dGet1 (o e : Den) : Den := fun l h => (o l h).bind fun x h1 => if isDic h1 x = true then (e l h1).bind fun k h2 => (match dicOf h2 x, keyOf k with
  | some l, some _ => .ok ((dGet l k).getD .non) h2
  | _, _ => .fail) else .fail
def dGet2 (o e f : Den) : Den := fun l h => (o l h).bind fun x h1 => if isDic h1 x = true then (e l h1).bind fun k h2 => (f l h2).bind fun z h3 => (match dicOf h3 x, keyOf k with
  | some l, some _ => .ok ((dGet l k).getD z) h3
  | _, _ => .fail) else .fail
theorem dic_is {K : PySem.W.Frag} {g : Gh} {H : Hp} {h : Hv} {v : Val} {x : V} (R : HR K g H h) (r : VR K g H v x) (e : isDic h v = true) : ∃ a, x = .ref a ∧ IsD H a := by
  unfold isDic at e
  obtain ⟨l, hl⟩ := Option.isSome_iff_exists.mp e
  obtain ⟨i, a, ks, rfl, rfl, hm, hi, ha, d⟩ := dicOf_ok R r hl
  exact ⟨a, rfl, .inl ⟨ks, .inl ha⟩⟩
theorem dget_at {K : PySem.W.Frag} {g : Gh} {H : Hp} {h : Hv} {v k : Val} {x y : V} {l : List (Val × Val)} {kk : Key} (R : HR K g H h) (r : VR K g H v x) (rk : VR K g H k y) (hl : dicOf h v = some l) (hk : keyOf k = some kk) : ∃ a o, x = .ref a ∧ DGet H a y o ∧ ∀ z zx, VR K g H z zx → VR K g H ((dGet l k).getD z) (o.getD zx) := by
  obtain ⟨i, a, ks, rfl, rfl, hm, hi, ha, d⟩ := dicOf_ok R r hl
  obtain ⟨d1, d2⟩ := DR.get hk d
  refine ⟨a, valV ks kk, rfl, ?_, fun z zx rz => ?_⟩
  · rw [key_V rk hk]; exact DGet.k ha
  · cases e : dGet l k with
    | none => rw [d2 e]; exact rz
    | some w => obtain ⟨w', e1, r1⟩ := d1 w e; rw [e1]; exact r1
theorem ge_get1 {o e : Expr} {dx de : Den} {apos cpos : Pos} (hu : X.A.units + 1 < cLine) (ho : GE X W o dx) (he : GE X W e de) (m : M1 X o "get" apos e cpos := by exact ⟨rfl, rfl, rfl, rfl⟩) : GE X W (.Call (.Attribute o "get" apos) [e] [] cpos) (dGet1 dx de) := by
  refine PE.imp (pe_dget1 hu ho he m) fun σ H Q ⟨g, l, h, S, R, A⟩ => ?_
  refine tG_of S R A fun v h1 g1 H1 x E S1 R1 r1 A1 => ?_
  split at A1
  · rename_i ok1
    obtain ⟨a, rfl, hd⟩ := dic_is R1 r1 ok1
    refine ⟨a, rfl, hd, ?_⟩
    refine tG_of S1 R1 A1 fun u h2 g2 H2 y E2 S2 R2 r2 A2 => ?_
    split at A2
    · rename_i k kk hl hk
      obtain ⟨a', o, e1, dg, hz⟩ := dget_at R2 (r1.ext R1 E2) r2 hl hk
      cases e1
      exact ⟨o, dg, A2 g2 H2 _ Ext.refl R2 (hz .non .non (by simp only [VR]))⟩
    · exact A2.elim
  · exact A1.elim
theorem ge_get2 {o e f : Expr} {dx de df : Den} {apos cpos : Pos} (hu : X.A.units + 1 < cLine) (ho : GE X W o dx) (he : GE X W e de) (hf : GE X W f df) (m : M2 X o "get" apos e f cpos := by exact ⟨rfl, rfl, rfl, rfl⟩) : GE X W (.Call (.Attribute o "get" apos) [e, f] [] cpos) (dGet2 dx de df) := by
  refine PE.imp (pe_dget2 hu ho he hf m) fun σ H Q ⟨g, l, h, S, R, A⟩ => ?_
  refine tG_of S R A fun v h1 g1 H1 x E S1 R1 r1 A1 => ?_
  split at A1
  · rename_i ok1
    obtain ⟨a, rfl, hd⟩ := dic_is R1 r1 ok1
    refine ⟨a, rfl, hd, ?_⟩
    refine tG_of S1 R1 A1 fun u h2 g2 H2 y E2 S2 R2 r2 A2 => ?_
    refine tG_of S2 R2 A2 fun w h3 g3 H3 z E3 S3 R3 r3 A3 => ?_
    split at A3
    · rename_i k kk hl hk
      obtain ⟨a', o, e1, dg, hz⟩ := dget_at R3 ((r1.ext R1 E2).ext R2 E3) (r2.ext R2 E3) hl hk
      cases e1
      exact ⟨o, dg, A3 g3 H3 _ Ext.refl R3 (hz w z r3)⟩
    · exact A3.elim
  · exact A1.elim

/-! ### stores -/
/-- o[i] = v -/
def vSet (o i v : Val) (h : Hv) : Option Hv := match o with
  | .ref a => match h[a]? with
    | some (.dic l) => (match keyOf i with
      | some _ => if l.length < lineN then some (h.set a (.dic (dPut l i v))) else none
      | none => none)
    | some (.lst l) => (match i with
      | .int k => (match ixN l.length k with
        | some j => some (h.set a (.lst (l.set j v)))
        | none => none)
      | _ => none)
    | _ => none
  | _ => none
def rSetD : V → V → V → Hp → (Hp → Prop) → Prop := fun o i v H Q => ∃ a H', o = .ref a ∧ DPut H a i v H' ∧ Q H'
theorem set_dict (hu : X.A.units + 1 < cLine) : PSet X rSetD := by
  intro pins s σ H o i v ov iv u Q I ro ri rv h
  obtain ⟨a, H', rfl, d, q⟩ := h
  obtain rfl : ov = Value.ref a := ro
  exact d_setItem hu I d ri rv fun s' I' => ⟨H', I', q⟩
theorem PSet.or {t t' : TSet} (p : PSet X t) (p' : PSet X t') : PSet X fun o i v H Q => t o i v H Q ∨ t' o i v H Q := by
  intro pins s σ H o i v ov iv u Q I ro ri rv h
  rcases h with h | h
  · exact p pins s σ H o i v ov iv u Q I ro ri rv h
  · exact p' pins s σ H o i v ov iv u Q I ro ri rv h
theorem vSet_ok {g : Gh} {H : Hp} {h h' : Hv} {o i v : Val} {x y z : V} {Q : Hp → Prop} (R : HR X.K g H h) (ro : VR X.K g H o x) (ri : VR X.K g H i y) (rv : VR X.K g H v z) (e : vSet o i v h = some h') (q : ∀ H', Ext g H g H' → HR X.K g H' h' → Q H') : rSetL x y z H Q ∨ rSetD x y z H Q := by
  unfold vSet at e
  split at e
  · rename_i a
    simp only [VR] at ro
    obtain ⟨b, rfl, hm⟩ := ro
    split at e
    · rename_i l hl
      split at e
      · rename_i kk hk
        split at e
        · rename_i hz
          cases e
          obtain ⟨ks, e1, d⟩ := ref_at R hl hm
          obtain ⟨E, R1⟩ := R.write (ob := .dic (dPut l i v)) (o' := .dK (putK ks kk z)) hm fun E => ⟨_, upd_same, DR.put ⟨d.1, d.2.ext R E⟩ hk (rv.ext R E)⟩
          refine .inr ⟨b, _, rfl, ?_, q _ E R1⟩
          rw [key_V ri hk]
          exact DPut.k e1 (by rw [← d.length]; exact line_lt hz)
        · cases e
      · cases e
    · rename_i l hl
      split at e
      · rename_i k
        split at e
        · rename_i j hj
          cases e
          obtain ⟨xs, e1, rs⟩ := ref_at R hl hm
          obtain ⟨E, R1⟩ := R.write (ob := .lst (l.set j v)) (o' := .lst (xs.set j z)) hm fun E => ⟨_, upd_same, VRs.set j (rs.ext R E) (rv.ext R E)⟩
          simp only [VR] at ri
          subst ri
          exact .inl ⟨b, xs, k, j, rfl, rfl, e1, by rw [← rs.length]; exact hj, q _ E R1⟩
        · cases e
      · cases e
    · cases e
  · cases e
def Res.toT {α : Type} (r : Res α) (l : Loc) (k : α → Hv → TRes) : TRes := match r with
  | .ok v h => k v h
  | .exc e h => .exc e l h
  | .fail => .fail
@[simp] theorem Res.toT_ok {α : Type} (a : α) (h : Hv) (l : Loc) (k : α → Hv → TRes) : (Res.ok a h).toT l k = k a h := rfl
def gSub (o i : Den) : Tg := fun v l h => (o l h).toT l fun x h1 => (i l h1).toT l fun y h2 => match vSet x y v h2 with
  | some h3 => .ok l h3
  | none => .fail
theorem tG_T {α β : Type} {K : PySem.W.Frag} {W : WX} {σ : L2.St} {g : Gh} {H : Hp} {l : Loc} {h : Hv} {rel : Gh → Hp → α → β → Prop} {d : DenG α} {k : α → Hv → TRes} {Q : L2.St → Hp → Prop} {R : β → Hp → Prop} (S : SR K g H l σ) (hr : HR K g H h) (A : AfterT K W g H Q ((d l h).toT l k))
    (hk : ∀ v h1 g1 H1 x, Ext g H g1 H1 → SR K g1 H1 l σ → HR K g1 H1 h1 → rel g1 H1 v x → AfterT K W g1 H1 Q (k v h1) → R x H1) : tG K W rel d σ H R := by
  refine ⟨g, l, h, S, hr, ?_⟩
  cases e : d l h with
  | ok v h1 =>
    rw [e] at A
    intro g' H' x E R' r
    exact hk v h1 g' H' x E (S.ext hr E) R' r (AfterT.ext E A)
  | exc x h1 =>
    rw [e] at A
    intro g' H' c d' E R' r
    exact A g' H' σ c d' E R' (S.ext hr E) r
  | fail =>
    rw [e] at A
    exact A
theorem gg_sub {o i : Expr} {dx di : Den} {pos : Pos} (hu : X.A.units + 1 < cLine) (ho : GE X W o dx) (hi : GE X W i di)
    (ha : ∀ v, assign (.Subscript o i pos) X.env v = (do
      let ov ← holding [v] (eval o X.env)
      let iv ← holding [v, ov] (eval i X.env)
      standAt pos
      holding [v, ov, iv] (setItem ov iv v)
      release [v, ov, iv] []) := by intro _; rfl) : GG X W (.Subscript o i pos) (gSub dx di) := by
  refine PG.imp (pg_sub ho hi (PSet.or set_list (set_dict hu)) ha) fun y σ H Q ⟨g, l, h, v, S, R, r, A⟩ => ?_
  refine tG_T S R A fun x h1 g1 H1 x' E S1 R1 r1 A1 => ?_
  refine tG_T S1 R1 A1 fun z h2 g2 H2 z' E2 S2 R2 r2 A2 => ?_
  split at A2
  · rename_i h3 e
    exact vSet_ok R2 (r1.ext R1 E2) r2 ((r.ext R E).ext R1 E2) e fun H' E3 R3 => A2 g2 H' σ E3 R3 (S2.ext R2 E3)
  · exact A2.elim
/-- name op= e -/
def sAug (i : Nat) (f : Val → Val → Hv → Res Val) (d : Den) : Stm := fun l h => match l[i]? with
  | some (some x) => (d l h).to l fun y h1 => (f x y h1).to l fun z h2 => .nx (l.set i (some z)) h2
  | _ => .fail
theorem gs_aug (i : Nat) {f : Val → Val → Hv → Res Val} {x : Str} {e : Expr} {d : Den} {op : Operator} {pos' pos : Pos} (ho : OpG X (inplaceOp op) f) (he : GE X W e d) (hN : X.N.Nodup) (hi : X.N[i]? = some x := by rfl) (hx : L2.Loc X.env.scope x := by first | exact Or.inl rfl | exact Or.inr rfl)
    (hf : X.fn x = true ∨ X.env.scope.names.lookup x = some .local := by first | exact .inl rfl | exact .inr rfl) : GS X W (.AugAssign (.Name x pos') op e pos) (sAug i f d) := by
  obtain ⟨r, ho, hr⟩ := ho
  refine PS.imp (ps_aug hN hi hx he ho hf) fun D σ H ⟨g, l, h, S, R, A⟩ => ?_
  unfold sAug at A
  split at A
  · rename_i v ev
    obtain ⟨x, e1, rx⟩ := S.at_ i v ev
    refine ⟨x, e1, ?_⟩
    refine tG_to S R A fun y h1 g1 H1 y' E S1 R1 r1 A1 => ?_
    refine hr W g1 H1 h1 σ v y x y' _ R1 (rx.ext R E) r1 ?_
    cases ef : f v y h1 with
    | ok z h2 =>
      rw [ef] at A1
      exact fun g' H' z' E' R' rz => A1 g' H' _ E' R' ((S1.ext R1 E').set i rz)
    | exc x2 h2 =>
      rw [ef] at A1
      exact fun g' H' c d' E' R' re => A1 g' H' σ c d' E' R' (S1.ext R1 E') re
    | fail => rw [ef] at A1; exact A1
  · exact A.elim
def vIAdd (v u : Val) (h : Hv) : Res Val := match v, u with
  | .int i, .int j => .ok (.int (i + j)) h
  | .str a, .str b => if a.length + b.length ≤ lineN then .ok (.str (a ++ b)) h else .fail
  | _, _ => .fail
theorem og_iadd : OpG X (inplaceOp .Add) vIAdd := by
  refine ⟨_, iop_add.or iop_add_str, fun W g H h σ v u x y Q R rv ru A => ?_⟩
  unfold vIAdd at A
  split at A
  · simp only [VR] at rv ru
    subst rv ru
    exact .inl ⟨_, _, rfl, rfl, A g H _ Ext.refl R (by simp only [VR])⟩
  · split at A
    · rename_i hl
      simp only [VR] at rv ru
      subst rv ru
      exact .inr ⟨_, _, rfl, rfl, by rw [sOf_len, sOf_len]; exact line_ok hl, A g H _ Ext.refl R (by simp only [VR]; rw [sOf_append])⟩
    · exact A.elim
  · exact A.elim
theorem og_isub : OpG X (inplaceOp .Sub) vSub := og_int0 iop_sub fun W g H h σ v u Q R A => by
  unfold vSub at A
  split at A
  · exact ⟨_, _, rfl, rfl, A g H _ Ext.refl R (by simp only [VR])⟩
  · exact A.elim
end
end GH
set_option Elab.async false
set_option linter.all false
set_option maxRecDepth 100000
set_option maxHeartbeats 1000000
set_option autoImplicit false
/-! sorted of data, the first of them an empty tuple too; is of bools; dict displays; what stands at the top. -/
namespace PySem.W
open PySem PySem.Calls PySem.SeqAt PyProof.Rows
section
variable {prog : Program} {w : World} {A : Around} {E : Value → Shared → Prop} {s : Shared}
theorem gh_call_tuple_lt {Q : Value → Shared → Prop} {l b : Addr} {items items2 : Array Value} {e r : Nat → Bool} (hl : s.heap.IsTuple l items) (hb : s.heap.IsTuple b items2)
    (he : ∀ j (h1 : j < items.size) (h2 : j < items2.size), EqAt A.in1 s items[j] items2[j] (e j)) (hr : ∀ j (h1 : j < items.size) (h2 : j < items2.size), e j = false → RcLt A.in1 s items[j] items2[j] (r j))
    (h : Q (.bool (firstLt e r (decide (items.size < items2.size)) (List.range (min items.size items2.size)))) s) : wpAny (model prog w) A (call (.builtin "tuple.__lt__") [.ref l, .ref b]) Q E s := by
  obtain ⟨⟨cls, dd, data, sl⟩, ho, hc, n, hd⟩ := id hl
  obtain ⟨⟨cls2, dd2, data2, sl2⟩, ho2, hc2, n2, hd2⟩ := id hb
  simp only at hc hd hc2 hd2
  subst hc hd hc2 hd2
  exact call_meets F.slot_tuple_lt ⟨_, ho, rfl⟩ F.entry_tuple_lt (F.args_tuple_lt_2 _ _) (tuple_ltAt l b items items2 n n2 dd dd2 sl sl2 e r) ⟨ho, ho2, he, hr, h⟩
theorem gh_oneLt_tup {xs ys : List PyData} {a b : Value} {as bs : List Addr} {Q : Bool → Shared → Prop} (ra : Reads s.heap a (.tuple xs) as) (rb : Reads s.heap b (.tuple ys) bs) (hal : alikeAll xs ys = true)
    (hu : A.units + min (PyData.tuple xs).depth (PyData.tuple ys).depth < cLine) (hq : Q (dataLt (.tuple xs) (.tuple ys)) s) : wpAny (model prog w) A (oneLt' true a b) Q E s := by
  cases ra with
  | @tuple l o vs n _ as₁ h1 h2 h3 h4 =>
    cases rb with
    | @tuple l' o' vs' n' _ bs₁ k1 k2 k3 k4 =>
      have n1 : vs.size = xs.length := by simpa using ReadsAll.length _ _ _ h4
      have n2 : vs'.size = ys.length := by simpa using ReadsAll.length _ _ _ k4
      rw [dataLt_tuple, ← firstLt_toks xs ys hal, ← n1, ← n2] at hq
      rw [oneLt'_eq]
      simp only [if_true]
      refine wpAny_bind (wpAny_cRoomFor (room_here hu) ?_)
      refine wpAny_bind (wpAny_callSpecialIfBound?_slot (T := "tuple") ⟨_, h1, h2⟩ F.slot_tuple_lt (gh_call_tuple_lt (e := pairEq xs ys) (r := fun j => dataLt (xs.getD j .none) (ys.getD j .none)) ⟨_, h1, h2, _, h3⟩ ⟨_, k1, k2, _, k3⟩ (fun j j1 j2 => ?_) (fun j j1 j2 hj => ?_) ?_))
      · have := eqAt_alikeAll xs ys A.in1 s vs.toList vs'.toList _ _ h4 k4 hal (room_in hu) j (by simpa using j1) (by simpa using j2)
        simpa using this
      · have := rcLt_alikeAll xs ys A.in1 s vs.toList vs'.toList _ _ h4 k4 hal (room_in hu) j (by simpa using j1) (by simpa using j2) hj
        simpa using this
      · exact wpAny_truthy_bool hq
theorem gh_kind {M : Model} {vs : List Value} {Q : SortKind → Shared → Prop} {a : Addr} {o : Obj} {n : Nat} {rest : List Value} (ev : vs = .ref a :: rest) (ho : s.heap.get? a = some o) (hc : o.cls = .type "tuple") (hd : o.data = .seq #[] n)
    (hT : ∀ v ∈ vs, ∃ b o xs n, v = .ref b ∧ s.heap.get? b = some o ∧ o.cls = .type "tuple" ∧ o.data = .seq xs n) (hL : ∀ v ∈ vs, Looks M s.heap (typeOf v) (.type "tuple")) (h : Q oneType' s) :
    wpAny M A (keyKind' vs.toArray) Q E s := by
  rw [keyKind'_eq, List.mapM_toArray, map_eq_pure_bind]
  have first : ∀ (v : Value) (b : Addr) (o : Obj) (xs : Array Value) (n : Nat) (Q' : Option Value → Shared → Prop), v = .ref b → s.heap.get? b = some o → o.cls = .type "tuple" → o.data = .seq xs n → Q' xs[0]? s → wpAny M A (firstOfTuple' v) Q' E s := by
    intro v b o xs n Q' e1 e2 e3 e4 q
    subst e1
    rw [kas_first_eq]
    have : Looks M s.heap (typeOf (.ref b)) (.type "tuple") := e3 ▸ (Looks.ld e2).andThen .now
    refine wpAny_bind (this.here ?_)
    rw [if_neg (by simp)]
    exact wpAny_bind (listItems_at e2 e4 (wpAny_pure q))
  have all : ∀ (l : List Value) (Q' : List (Option Value) → Shared → Prop), (∀ v ∈ l, ∃ b o xs n, v = .ref b ∧ s.heap.get? b = some o ∧ o.cls = .type "tuple" ∧ o.data = .seq xs n) → (∀ fs : List (Option Value), fs.length = l.length → Q' fs s) → wpAny M A (l.mapM firstOfTuple') Q' E s := by
    intro l
    induction l with
    | nil => intro Q' _ q; rw [List.mapM_nil]; exact wpAny_pure (q [] rfl)
    | cons v l ih =>
      intro Q' hv q
      obtain ⟨b, o, xs, n, e1, e2, e3, e4⟩ := hv v (List.mem_cons_self ..)
      rw [List.mapM_cons]
      exact wpAny_bind (first v b o xs n _ e1 e2 e3 e4 (wpAny_bind (ih (fun bs s' => wpAny M A (pure (xs[0]? :: bs)) Q' E s') (fun v hv' => hv v (List.mem_cons_of_mem _ hv')) fun fs hl => wpAny_pure (q _ (by simp [hl])))))
  have go : ∀ fs : List (Option Value), fs.length = rest.length → wpAny M A (do
      if ((none :: fs : List (Option Value)).toArray.all (·.isSome)) = true then
        rule "list.sort.keys-are-tuples"
        return tuples' ((← oneTypeOnly' (((none :: fs : List (Option Value)).toArray.filterMap id))).any (· != .type "tuple"))
      if (((none :: fs : List (Option Value)).toArray)[0]?.bind id).isSome = true then return general'
      return if (← oneTypeOnly' vs.toArray).isSome = true then oneType' else general') Q E s := by
    intro fs hl
    rw [if_neg (by simp), if_neg (by simp)]
    rw [oneTypeOnly'_eq, List.mapM_toArray, map_eq_pure_bind]
    refine wpAny_bind (wpAny_bind (wpAny_bind (kas_mapM (r := Value.type "tuple") _ (fun v hv Q' hq => (hL v hv).here hq) (wpAny_pure ?_))))
    have hall : ((List.map (fun _ => Value.type "tuple") vs).toArray.all fun x => x == Value.type "tuple") = true := by
      simp only [List.all_toArray, List.all_map, List.all_eq_true]
      intro _ _
      exact beq_self_eq_true _
    have h0 : (List.map (fun _ => Value.type "tuple") vs).toArray[0]? = some (Value.type "tuple") := by rw [ev]; simp
    rw [h0]
    simp only [hall, if_true]
    exact wpAny_pure (wpAny_pure h)
  subst ev
  rw [List.mapM_cons]
  refine wpAny_bind (wpAny_bind (wpAny_bind (first _ a o #[] n _ rfl ho hc hd (wpAny_bind (all rest _ (fun v hv => hT v (List.mem_cons_of_mem _ hv)) fun fs hl => wpAny_pure ?_)))))
  exact wpAny_pure (go fs hl)
theorem GhSortsAt {vs : List Value} {ds : List PyData} (e : EachIs (fun v d => ∃ as, Reads s.heap v d as) vs ds) (hal : AllAlike ds) (hk : Sortable ds ∨ ∃ r, ds = .tuple [] :: r) (hu : ∀ d, d ∈ ds → A.units + d.depth < cLine) : SortsAt prog w A s (dataKind s.heap ds) vs := by
  rcases hk with hk | ⟨r, rfl⟩
  · exact SortsAt.data e hal hk hu
  have room : ∀ {d d' : PyData}, d ∈ PyData.tuple [] :: r → A.units + min d.depth d'.depth < cLine := fun {d d'} hd => Nat.lt_of_le_of_lt (Nat.add_le_add_left (Nat.min_le_left _ _) _) (hu d hd)
  have tup : ∀ d, d ∈ PyData.tuple [] :: r → ∃ xs, d = .tuple xs := by
    intro d hd
    have := hal d hd (.tuple []) (List.mem_cons_self ..)
    cases d with
    | tuple xs => exact ⟨xs, rfl⟩
    | _ => simp [alike] at this
  refine ⟨fun v hv => ?_, oneType', ?_, fun h2 E Q hq => ?_⟩
  · obtain ⟨d, hd, as, r⟩ := e.left v hv
    exact ⟨_, dataKind_some hal hd r⟩
  · intro E x y a b Q ha hb hq
    obtain ⟨d, as, hd, ra, rfl⟩ := dataKind_inv ha
    obtain ⟨d', as', hd', rb, rfl⟩ := dataKind_inv hb
    rw [keyLt'_oneType]
    have hdd := hal d hd d' hd'
    have hroom := room (d' := d') hd
    obtain ⟨xs, rfl⟩ := tup d hd
    obtain ⟨ys, rfl⟩ := tup d' hd'
    exact gh_oneLt_tup ra rb (by simpa [alike] using hdd) hroom hq
  · have shape : ∀ v d, d ∈ PyData.tuple [] :: r → (∃ as, Reads s.heap v d as) → ∃ b o xs n ds', v = .ref b ∧ s.heap.get? b = some o ∧ o.cls = .type "tuple" ∧ o.data = .seq xs n ∧ d = .tuple ds' ∧ xs.size = ds'.length := by
      intro v d hd ⟨as, ra⟩
      obtain ⟨ys, rfl⟩ := tup d hd
      cases ra with
      | @tuple l o vs n _ as₁ h1 h2 h3 h4 => exact ⟨l, o, vs, n, ys, rfl, h1, h2, h3, rfl, by simpa using ReadsAll.length _ _ _ h4⟩
    have hT : ∀ v ∈ vs, ∃ b o xs n, v = .ref b ∧ s.heap.get? b = some o ∧ o.cls = .type "tuple" ∧ o.data = .seq xs n := by
      intro v hv
      obtain ⟨d, hd, as, ra⟩ := e.left v hv
      obtain ⟨b, o, xs, n, _, q1, q2, q3, q4, _⟩ := shape v d hd ⟨as, ra⟩
      exact ⟨b, o, xs, n, q1, q2, q3, q4⟩
    have hL : ∀ v ∈ vs, Looks (model prog w) s.heap (typeOf v) (.type "tuple") := by
      intro v hv
      obtain ⟨b, o, xs, n, q1, q2, q3, q4⟩ := hT v hv
      subst q1
      show Looks _ _ (typeOf (Value.ref _)) _
      exact q3 ▸ (Looks.ld q2).andThen .now
    cases e with
    | @cons v0 _ _ _ ra t =>
      obtain ⟨b, o, xs, n, ds', q1, q2, q3, q4, q5, q6⟩ := shape v0 _ (List.mem_cons_self ..) ra
      cases q5
      have : xs = #[] := Array.eq_empty_of_size_eq_zero q6
      subst this
      subst q1
      exact gh_kind rfl q2 q3 q4 hT hL hq
theorem gh_sorted_data {β : Type} {vs : List Value} {bs : List β} {enc : β → PyData} {R : Value → β → Prop} {l : Addr} {Q : Value → Shared → Prop} (hl : s.heap.IsList l vs.toArray) (e : EachIs R vs bs) (er : EachIs (fun v b => ∃ as, Reads s.heap v (enc b) as) vs bs) (hal : AllAlike (bs.map enc)) (hk : Sortable (bs.map enc) ∨ ∃ r, bs.map enc = .tuple [] :: r) (hL : bs.length ≤ sizeLine)
    (hu : ∀ b, b ∈ bs → A.units + 2 + (enc b).depth < cLine) (h : ∀ out, out.length = bs.length → EachIs R out (bs.mergeSort (dataLe false enc)) → Q (.ref (s.heap.objs.size + 1)) { s with heap := sortedAll s.heap vs (List.toArray out) }) :
    wpAny (model prog w) A (call (.builtin "sorted") [.ref l]) Q E s := by
  have er' : EachIs (fun v b => ∃ as, Reads (sortingHeap (copyHeap s.heap vs) (s.heap.objs.size + 1) vs) v (enc b) as) vs bs := er.mono fun _ _ ⟨as, r⟩ => ⟨as, PyProof.Rows.Reads.keeps (fun _ _ => sorting_copy_old) r⟩
  exact sorted_vals hl (GhSortsAt (s := { s with heap := sortingHeap (copyHeap s.heap vs) (s.heap.objs.size + 1) vs }) (each_map (R := fun v d => ∃ as, Reads (sortingHeap (copyHeap s.heap vs) (s.heap.objs.size + 1) vs) v d as) enc er') hal hk (bound_map hu)) (by rw [e.length]; exact hL)
    (h _ (by rw [sortVals_length false rfl]; exact e.length) (sortVals_data false e er' hal))
end
end PySem.W
set_option Elab.async false
set_option linter.all false
set_option maxRecDepth 100000
set_option maxHeartbeats 1000000
set_option autoImplicit false
namespace GH
open PySem PySem.Spec PyProof.Rows L2
variable [TheWorld]
section
variable {K : PySem.W.Frag}
theorem OR.own {g g' : Gh} {H : Hp} {t : List Addr} (hm : g'.m = g.m ++ t) (ho : ∀ a, ¬ g.own a → ¬ g'.own a) {a : Addr} {o : Ob} (q : OR K g H a o) : OR K g' H a o := by
  cases o with
  | lst l => obtain ⟨xs, e, r⟩ := q; exact ⟨xs, e, r.own hm ho⟩
  | dic l => obtain ⟨xs, e, r⟩ := q; exact ⟨xs, e, r.1, r.2.own hm ho⟩
  | ins c f => obtain ⟨dx, gs, e, r⟩ := q; exact ⟨dx, gs, e, r.1, r.2.own hm ho⟩
  | dn l => obtain ⟨xs, ys, e, p, r1, r2⟩ := q; exact ⟨xs, ys, e, p, r1.own hm ho, r2.own hm ho⟩
  | tbl t => exact ⟨q.1, q.2.stay (fun ps e => e) (fun c o e nt hn => ⟨e, ho _ hn⟩)⟩
theorem HR.aside {g : Gh} {H : Hp} {h : Hv} {D : Addr} {o : HO} (R1 : HR K g H h) (nD : H D = none) (mo : MutX D o) : ExtS g H ⟨g.m, D :: g.r⟩ (upd H D o) ∧ HR K ⟨g.m, D :: g.r⟩ (upd H D o) h := by
  have ES : ExtS g H ⟨g.m, D :: g.r⟩ (upd H D o) := ⟨⟨[], by simp, by simp⟩, ⟨[D], rfl, fun b hb => by rw [List.mem_singleton.mp hb]; exact fre_none nD⟩, fun b o e _ hb => by rw [upd_ne (ne_of_none e nD)]; exact e⟩
  refine ⟨ES, R1.len, R1.nd, fun a ha z => ?_, fun a ha => ?_, fun i o a e1 e2 => ?_⟩
  · rcases List.mem_cons.mp z with z | z
    · subst z; exact R1.fresh nD (.inl ha)
    · exact R1.dis a ha z
  · rcases List.mem_cons.mp ha with z | z
    · subst z; exact ⟨_, upd_same, mo⟩
    · obtain ⟨ob, e, mo⟩ := R1.al a z
      exact ⟨ob, by rw [upd_ne (ne_of_none e nD)]; exact e, mo⟩
  · have q := R1.obj i o a e1 e2
    cases o with
    | lst l => obtain ⟨xs, e, r⟩ := q; exact ⟨xs, by rw [upd_ne (ne_of_none e nD)]; exact e, r.extS R1 ES⟩
    | dic l => obtain ⟨xs, e, r⟩ := q; exact ⟨xs, by rw [upd_ne (ne_of_none e nD)]; exact e, r.1, r.2.extS R1 ES⟩
    | ins c f => obtain ⟨dx, gs, e, r⟩ := q; exact ⟨dx, gs, by rw [upd_ne (ne_of_none e nD)]; exact e, r.1, r.2.extS R1 ES⟩
    | dn l => obtain ⟨xs, ys, e, p, r1, r2⟩ := q; exact ⟨xs, ys, by rw [upd_ne (ne_of_none e nD)]; exact e, p, r1.extS R1 ES, r2.extS R1 ES⟩
    | tbl t => exact ⟨q.1, q.2.stay (fun ps e => by rw [upd_ne (ne_of_none e nD)]; exact e) (fun c o e nt hn => ⟨by rw [upd_ne (ne_of_none e nD)]; exact e, ES.nown hn e nt⟩)⟩
theorem promote {W : WX} {σ : L2.St} {g1 g2 : Gh} {H1 H : Hp} {h h1 : Hv} {Q : VK} {D : Addr} {o0 o1 : HO} {ob : Ob} (R1 : HR K g1 H1 h1) (nD : H1 D = none) (E : Ext ⟨g1.m, D :: g1.r⟩ (upd H1 D o0) g2 H) (R : HR K g2 H h) (m1 : MutX D o1)
    (hob : ∀ {g3 : Gh} {t : List Addr}, g3.m = g2.m ++ t → (∀ a, ¬ g2.own a → ¬ g3.own a) → OR K g3 (upd H D o1) D ob) (A : After K W (vr K) σ g1 H1 Q (.ok (.ref h.length) (h ++ [ob]))) (n0 : ∀ ps, o0 ≠ .tbl ps := by intro ps z; cases z) : Q (.ref D) (upd H D o1) := by
  have hD : D ∈ g2.r := by rw [E.r]; exact List.mem_cons_self ..
  have er : g2.r = D :: g1.r := E.r
  have hr : ∀ b ∈ g1.r, b ∈ g2.r := fun b hb => by rw [er]; exact List.mem_cons_of_mem _ hb
  have nm : D ∉ g2.m := fun z => R.dis D z hD
  have nr : D ∉ g1.r := fun z => by obtain ⟨o, e⟩ := R1.own_there (.inr z); rw [nD] at e; cases e
  obtain ⟨ods, e0, m0⟩ := R.al D hD
  have R := R.reset (zs := o1) hD e0 m0 m1
  obtain ⟨t, em, n⟩ := E.m
  have em : g2.m = g1.m ++ t := em
  have E' : Ext g1 H1 ⟨g2.m ++ [D], g1.r⟩ (upd H D o1) := ⟨⟨t ++ [D], by show g2.m ++ [D] = _; rw [em, List.append_assoc], fun b hb => by
    rcases List.mem_append.mp hb with hb | hb
    · have q := n b hb
      have hne : b ≠ D := by
        rintro rfl
        obtain ⟨ps, z⟩ := q _ upd_same
        exact n0 ps z
      intro o z
      exact q o (by rw [upd_ne hne]; exact z)
    · rw [List.mem_singleton.mp hb]; exact fre_none nD⟩, rfl, fun b o e nt hb => by
      have hne := ne_of_none e nD
      rw [upd_ne hne]
      exact E.keepN b o (by rw [upd_ne hne]; exact e) nt hb, fun b o e nt => by
      have hne := ne_of_none e nD
      rw [upd_ne hne]
      exact E.there b o (by rw [upd_ne hne]; exact e) nt⟩
  have hm : (Gh.mk (g2.m ++ [D]) g1.r).m = g2.m ++ [D] := rfl
  have ho : ∀ a, ¬ g2.own a → ¬ (Gh.mk (g2.m ++ [D]) g1.r).own a := fun a ha z => by
    rcases z with z | z
    · rcases List.mem_append.mp z with z | z
      · exact ha (.inl z)
      · exact ha (.inr (by rw [List.mem_singleton.mp z]; exact hD))
    · exact ha (.inr (hr a z))
  refine A ⟨g2.m ++ [D], g1.r⟩ (upd H D o1) (.ref D) E' ⟨by simp [R.len], ?_, fun a ha => ?_, fun a ha => R.al a (hr a ha), fun i o a e1 e2 => ?_⟩ ?_
  · show (g2.m ++ [D]).Nodup
    refine List.nodup_append.mpr ⟨R.nd, by simp, fun a ha b hb => ?_⟩
    rw [List.mem_singleton.mp hb]
    rintro rfl
    exact nm ha
  · have ha : a ∈ g2.m ++ [D] := ha
    rcases List.mem_append.mp ha with ha | ha
    · exact fun z => R.dis a ha (hr a z)
    · rw [List.mem_singleton.mp ha]; exact nr
  · have e2 : (g2.m ++ [D])[i]? = some a := e2
    by_cases hi : i < h.length
    · rw [List.getElem?_append_left hi] at e1
      rw [List.getElem?_append_left (by rw [R.len]; exact hi)] at e2
      exact (R.obj i o a e1 e2).own hm ho
    · have hi' : i = h.length := by
        have := (List.getElem?_eq_some_iff.mp e1).1
        simp at this
        omega
      subst hi'
      rw [List.getElem?_append_right (Nat.le_refl _)] at e1
      rw [List.getElem?_append_right (by rw [R.len]; exact Nat.le_refl _)] at e2
      simp at e1
      rw [R.len] at e2
      simp at e2
      subst e1 e2
      exact hob hm ho
  · simp only [VR]
    refine ⟨D, rfl, ?_⟩
    show (g2.m ++ [D])[h.length]? = some D
    rw [← R.len]
    simp

/-! ### dict displays -/
def dPairs : List (Den × Den) → Loc → Hv → Res (List (Val × Val))
  | [], _, h => .ok [] h
  | (a, b) :: r, l, h => match a l h with
    | .ok k h1 => (match b l h1 with
      | .ok v h2 => (match dPairs r l h2 with
        | .ok ps h3 => .ok ((k, v) :: ps) h3
        | _ => .fail)
      | _ => .fail)
    | _ => .fail
def dMk (ps : List (Val × Val)) : List (Val × Val) := ps.foldl (fun acc p => dPut acc p.1 p.2) []
def dDisp (ds : List (Den × Den)) : Den := fun l h => match dPairs ds l h with
  | .ok ps h1 => if (ps.all fun p => (keyOf p.1).isSome) = true ∧ ps.length ≤ 15 then .ok (.ref h1.length) (h1 ++ [.dic (dMk ps)]) else .fail
  | _ => .fail
abbrev tPP (K : PySem.W.Frag) (ds : List (Den × Den)) : List (TE × TE) := ds.map fun p => (tG K W0 (vr K) p.1, tG K W0 (vr K) p.2)
theorem pairs_of {l : Loc} {σ : L2.St} : ∀ {ds : List (Den × Den)} {g : Gh} {H : Hp} {h h' : Hv} {ps : List (Val × Val)} {Rq : List (V × V) → Hp → Prop}, SR K g H l σ → HR K g H h → dPairs ds l h = .ok ps h' →
    (∀ g' H' xs, Ext g H g' H' → HR K g' H' h' → VRs K g' H' (ps.map (·.1)) (xs.map (·.1)) → VRs K g' H' (ps.map (·.2)) (xs.map (·.2)) → Rq xs H') → tPairs (tPP K ds) σ H Rq
  | [], g, H, h, h', ps, Rq, S, R, e, c => by
    simp only [dPairs, Res.ok.injEq] at e
    obtain ⟨rfl, rfl⟩ := e
    exact c g H [] Ext.refl R VRs.nil VRs.nil
  | (a, b) :: r, g, H, h, h', ps, Rq, S, R, e, c => by
    simp only [dPairs] at e
    split at e
    · rename_i k h1 ea
      split at e
      · rename_i v h2 eb
        split at e
        · rename_i ps' h3 er
          simp only [Res.ok.injEq] at e
          obtain ⟨rfl, rfl⟩ := e
          refine ⟨g, l, h, S, R, ?_⟩
          dsimp only
          rw [ea]
          intro g1 H1 x E1 R1 rk
          have S1 := S.ext R E1
          refine ⟨g1, l, h1, S1, R1, ?_⟩
          show After K W0 (vr K) σ g1 H1 _ (b l h1)
          rw [eb]
          intro g2 H2 y E2 R2 rv
          refine pairs_of (S1.ext R1 E2) R2 er fun g3 H3 xs E3 R3 r1 r2 => ?_
          refine c g3 H3 ((x, y) :: xs) ((E1.trans E2).trans E3) R3 ?_ ?_
          · exact VRs.cons ((VR.ext R1 E2 rk).ext R2 E3) r1
          · exact VRs.cons (VR.ext R2 E3 rv) r2
        · cases e
      · cases e
    · cases e
def GPs (X : Cx) (pos : Pos) (keys : List (Option Expr)) (values : List Expr) (ds : List (Den × Den)) : Prop := PPs X pos keys values (tPP X.K ds)
section
variable {X : Cx} {W : WX}
theorem gps_nil {pos : Pos} : GPs X pos [] [] [] := pps_nil
theorem gps_cons {pos : Pos} {k v : Expr} {ks : List (Option Expr)} {vs : List Expr} {a b : Den} {ds : List (Den × Den)} (hk : GE X W0 k a) (hv : GE X W0 v b) (hr : GPs X pos ks vs ds) : GPs X pos (some k :: ks) (v :: vs) ((a, b) :: ds) := pps_cons hk hv hr
theorem merge_ok {g : Gh} {H : Hp} : ∀ {ps : List (Val × Val)} {kvs : List (Key × V)} {acc : List (Val × Val)} {ka : List (Key × V)}, DR K g H acc ka → ps.map (fun p => keyOf p.1) = kvs.map (fun q => some q.1) → VRs K g H (ps.map (·.2)) (kvs.map (·.2)) →
    DR K g H (ps.foldl (fun acc p => dPut acc p.1 p.2) acc) (mergeK ka kvs)
  | [], [], acc, ka, d, _, _ => d
  | [], _ :: _, _, _, _, e, _ => by cases e
  | _ :: _, [], _, _, _, e, _ => by cases e
  | p :: ps, q :: kvs, acc, ka, d, e, r => by
    simp only [List.map_cons, List.cons.injEq] at e
    simp only [List.map_cons, VRs] at r
    obtain ⟨x, xs, e1, r1, r2⟩ := r
    cases e1
    show DR K g H (ps.foldl (fun acc p => dPut acc p.1 p.2) (dPut acc p.1 p.2)) (mergeK (putK ka q.1 q.2) kvs)
    exact merge_ok (d.put e.1 r1) e.2 r2
theorem kvs_of {g : Gh} {H : Hp} : ∀ {ps : List (Val × Val)} {xs : List (V × V)}, (ps.all fun p => (keyOf p.1).isSome) = true → VRs K g H (ps.map (·.1)) (xs.map (·.1)) → VRs K g H (ps.map (·.2)) (xs.map (·.2)) →
    ∃ kvs : List (Key × V), xs = kvs.map (fun kv => (kV kv.1, kv.2)) ∧ ps.map (fun p => keyOf p.1) = kvs.map (fun q => some q.1) ∧ VRs K g H (ps.map (·.2)) (kvs.map (·.2)) ∧ kvs.length = ps.length
  | [], [], _, _, _ => ⟨[], rfl, rfl, VRs.nil, rfl⟩
  | [], _ :: _, _, r, _ => by simp [VRs] at r
  | _ :: _, [], _, r, _ => by simp [VRs] at r
  | p :: ps, x :: xs, a, r1, r2 => by
    simp only [List.all_cons, Bool.and_eq_true] at a
    simp only [List.map_cons, VRs] at r1 r2
    obtain ⟨y, ys, e1, q1, t1⟩ := r1
    cases e1
    obtain ⟨y, ys, e1, q2, t2⟩ := r2
    cases e1
    obtain ⟨kvs, e1, e2, e3, e4⟩ := kvs_of a.2 t1 t2
    obtain ⟨k, hk⟩ := Option.isSome_iff_exists.mp a.1
    refine ⟨(k, x.2) :: kvs, ?_, ?_, ?_, by simp [e4]⟩
    · rw [e1, List.map_cons, ← key_V q1 hk]
    · simp only [List.map_cons, hk, e2]
    · exact VRs.cons q2 e3
theorem ge_disp {keys : List (Option Expr)} {values : List Expr} {ds : List (Den × Den)} {pos : Pos} (hp : GPs X pos keys values ds) (hall : keys.all (·.isSome) = true := by rfl) (hl : keys.length = values.length := by rfl) (h0 : keys ≠ [] := by exact fun h => nomatch h)
    (h15 : keys.length ≤ 15 := by decide) : GE X W (.Dict keys values pos) (dDisp ds) := by
  refine PE.imp (pe_disp hp hall hl h0 h15) fun σ H Q ⟨g, l, h, S, R, A⟩ p np => ?_
  obtain ⟨ES, RD⟩ := R.aside (o := .dK []) np trivial
  unfold dDisp at A
  split at A
  · rename_i ps h1 ep
    split at A
    · rename_i hk
      refine pairs_of (S.extS R ES) RD ep fun g2 H2 xs E R2 r1 r2 => ?_
      obtain ⟨kvs, e1, e2, e3, e4⟩ := kvs_of hk.1 r1 r2
      have hD : p ∈ g2.r := by rw [E.r]; exact List.mem_cons_self ..
      have e0 : H2 p = some (.dK []) := E.keep p _ upd_same (fun z => R.fresh np (.inl z))
      refine ⟨e0, kvs, e1, by rw [e4]; exact hk.2, ?_⟩
      refine promote R np E R2 trivial (fun hm ho => ?_) A
      obtain ⟨ods, eq0, m0⟩ := R2.al p hD
      have d := merge_ok DR.nil e2 (e3.reset (zs := .dK (mergeK [] kvs)) hD eq0 m0)
      exact ⟨_, upd_same, d.1, d.2.own hm ho⟩
    · exact A.elim
  · exact A.elim

/-! ### {} -/
def dNewD : Den := fun _ h => .ok (.ref h.length) (h ++ [.dic []])
theorem ge_dnew {pos : Pos} : GE X W (.Dict [] [] pos) dNewD := PE.imp pe_dnewK fun σ H Q ⟨g, l, h, S, R, A⟩ p np => push_ok R A np fun E => ⟨[], upd_same, DR.nil⟩

/-! ### is of bools -/
def vIsB (v u : Val) (h : Hv) : Res Val := match v, u with
  | .bl a, .bl b => .ok (.bl (decide (a = b))) h
  | _, _ => .fail
def vNotB (v u : Val) (h : Hv) : Res Val := match v, u with
  | .bl a, .bl b => .ok (.bl (!decide (a = b))) h
  | _, _ => .fail
theorem og_isB : OpG X (compareOp .Is) vIsB := by
  refine ⟨_, op_isBl, fun W g H h σ v u x y Q R rv ru A => ?_⟩
  unfold vIsB at A
  split at A
  · simp only [VR] at rv ru
    exact ⟨_, _, rv, ru, A g H _ Ext.refl R (by simp only [VR])⟩
  · exact A.elim
theorem og_notB : OpG X (compareOp .IsNot) vNotB := by
  refine ⟨_, op_notBl, fun W g H h σ v u x y Q R rv ru A => ?_⟩
  unfold vNotB at A
  split at A
  · simp only [VR] at rv ru
    exact ⟨_, _, rv, ru, A g H _ Ext.refl R (by simp only [VR])⟩
  · exact A.elim

/-! ### never -/
def dFail : Den := fun _ _ => .fail
def sFail : Stm := fun _ _ => .fail
theorem ge_fail {e : Expr} : GE X W e dFail := ⟨fun _ _ _ _ _ _ ⟨_, _, _, _, _, A⟩ => A.elim⟩
theorem gs_fail {s : Stmt} : GS X W s sFail := ⟨fun _ _ _ _ _ _ ⟨_, _, _, _, _, A⟩ => A.elim⟩
theorem gss_fail {s : List Stmt} : GSs X W s sFail := ⟨fun _ _ _ _ _ _ ⟨_, _, _, _, _, A⟩ => A.elim⟩

/-! ### what stands at the top -/
theorem ge_top {x : Str} {v : Val} {y : V} {u : Value} {pos : Pos} (hm : X.mg x = some u) (r : RelV y u) (rv : ∀ g H, VR X.K g H v y) (hg : Gl X x := by rfl) (hd : (x == ("__debug__" : Str)) = false := by decide +kernel) : GE X W (.Name x pos) (dC v) := ge_c (pe_glob hg hm r hd) rv
/-- a table at the top: texts to texts -/
def dTab (t : List (List Nat × Val)) (d : Den) : Den := fun l h => (d l h).bind fun v h1 => match v with
  | .str s => (match t.lookup s with
    | some w => .ok w h1
    | none => .fail)
  | _ => .fail
theorem ix_tab {d : Addr} {es : Array DictEntry} {n : Nat} (D : KDict X.K X.w d es n) : IxR X (fun x y H Q => ∃ (z : Str) (u0 : Value) (v0 : V), x = .ref d ∧ y = .str z ∧ PySem.W.nsIn X.K d z = some (some u0) ∧ RelV v0 u0 ∧ Q v0 H) := by
  intro value slice pins s σ H x y v u Q I rx ry h hs
  obtain ⟨z, u0, v0, rfl, rfl, e, r, q⟩ := h
  have hv : v = Value.ref d := rx
  subst hv
  exact tail_any (kd_type D I) PySem.F.slot_dict_getitem.lookup (op_item_kd D pins s σ H (.ref d) (.str z) (.ref d) u Q I rfl ry ⟨z, u0, v0, rfl, rfl, e, r, q⟩) hs
theorem ge_tab (t : List (List Nat × Val)) {d : Addr} {es : Array DictEntry} {n : Nat} {x : Str} {b : Expr} {db : Den} {p pos : Pos} (D : KDict X.K X.w d es n) (hm : X.mg x = some (.ref d)) (ht : ∀ q ∈ t, ∃ u y, PySem.W.nsIn X.K d (sOf q.1) = some (some u) ∧ RelV y u ∧ ∀ g H, VR X.K g H q.2 y)
    (hb : GE X W b db) (hg : Gl X x := by rfl) (hd : (x == ("__debug__" : Str)) = false := by decide +kernel) (hs : PlainIx b := by exact fun _ _ => rfl) : GE X W (.Subscript (.Name x p) b pos) (dTab t db) := by
  refine PE.imp (pe_ix (ix_tab D) (pe_glob (v := .ref d) hg hm rfl hd) hb hs) fun σ H Q ⟨g, l, h, S, R, A⟩ => ?_
  refine tG_of S R A fun v h1 g1 H1 x E S1 R1 r1 A1 => ?_
  split at A1
  · rename_i s
    split at A1
    · rename_i w e
      have hm : ∃ q ∈ t, q = (s, w) := by
        have gen : ∀ tb : List (List Nat × Val), tb.lookup s = some w → (s, w) ∈ tb := by
          intro tb
          induction tb with
          | nil => intro z; cases z
          | cons p tb ih =>
            intro z
            rw [List.lookup_cons] at z
            split at z
            · rename_i q
              cases z
              rw [show s = p.1 by simpa using q]
              exact List.mem_cons_self ..
            · exact List.mem_cons_of_mem _ (ih z)
        exact ⟨_, gen t e, rfl⟩
      obtain ⟨q, hq, rfl⟩ := hm
      obtain ⟨u, y, e1, e2, e3⟩ := ht _ hq
      simp only [VR] at r1
      subst r1
      exact ⟨_, u, y, rfl, rfl, e1, e2, A1 g1 H1 y Ext.refl R1 (e3 g1 H1)⟩
    · exact A1.elim
  · exact A1.elim

/-! ### sorted -/
def isNE : Val → Bool
  | .tup (_ :: _) => true
  | _ => false
def isPlainK : Val → Bool
  | .bl _ | .int _ | .str _ => true
  | _ => false
def sortOk (l : List Val) : Bool := okVs l && (l.all fun a => l.all fun b => PySem.W.alike (pd a) (pd b)) && (l.all isNE || l.all isPlainK || (match l with
  | .tup [] :: _ => true
  | _ => false)) && decide (dpVs l ≤ 190)
noncomputable def sortV (l : List Val) : List Val := l.mergeSort (PySem.W.dataLe false pd)
noncomputable def vSorted (v : Val) (h : Hv) : Res Val := match lstOf h v with
  | some l => if sortOk l = true then .ok (.lst (sortV l)) h else .fail
  | none => .fail
noncomputable def vSortedM (v : Val) (h : Hv) : Res Val := match lstOf h v with
  | some l => if sortOk l = true then .ok (.ref h.length) (h ++ [.lst (sortV l)]) else .fail
  | none => .fail
def rSortG (K : PySem.W.Frag) : List V → Hp → VK → Prop := fun vs H Q => ∃ (g : Gh) (a : Addr) (xs : List V) (bs : List Val), vs = [.ref a] ∧ SqL K H a xs ∧ VRs K g H bs xs ∧ sortOk bs = true ∧ ∀ ys p, VRs K g H (sortV bs) ys → H p = none → Q (.ref p) (upd H p (.lst ys))
theorem each_VR {g : Gh} {H : Hp} : ∀ {bs : List Val} {xs : List V} {us : List Value}, VRs K g H bs xs → Vals xs us → PySem.W.EachIs (fun u b => ∃ x, RelV x u ∧ VR K g H b x) us bs
  | [], xs, us, r, q => by
    simp only [VRs] at r
    subst r
    cases q
    exact .nil
  | b :: bs, xs, us, r, q => by
    simp only [VRs] at r
    obtain ⟨x, ys, rfl, r1, r2⟩ := r
    cases q with
    | cons q1 q2 => exact .cons ⟨x, q1, r1⟩ (each_VR r2 q2)
theorem VRs_each {g : Gh} {H : Hp} : ∀ {bs : List Val} {us : List Value}, PySem.W.EachIs (fun u b => ∃ x, RelV x u ∧ VR K g H b x) us bs → ∃ xs, VRs K g H bs xs ∧ Vals xs us
  | _, _, .nil => ⟨[], VRs.nil, .nil⟩
  | _, _, .cons ⟨x, q1, r1⟩ t => by
    obtain ⟨xs, r2, q2⟩ := VRs_each t
    exact ⟨x :: xs, VRs.cons r1 r2, .cons q1 q2⟩
theorem okVs_mem : ∀ {l : List Val} {v : Val}, okVs l = true → v ∈ l → okV v = true
  | w :: l, v, o, m => by
    simp only [okVs, Bool.and_eq_true] at o
    rcases List.mem_cons.mp m with rfl | m
    · exact o.1
    · exact okVs_mem o.2 m
theorem dpVs_mem : ∀ {l : List Val} {v : Val}, v ∈ l → dpV v ≤ dpVs l
  | w :: l, v, m => by
    simp only [dpVs]
    rcases List.mem_cons.mp m with rfl | m
    · omega
    · have := dpVs_mem m; omega
theorem cr_sortG (hu : X.A.units + 200 < cLine) : CallR X (.builtin "sorted") (rSortG X.K) := by
  intro pins s σ H vs us Q I r h
  obtain ⟨g, a, xs, bs, rfl, hs, rb, ok, q⟩ := h
  obtain ⟨its, rv, hl, hz⟩ := I.list hs
  rw [Vals.ref1 r]
  simp only [sortOk, Bool.and_eq_true, decide_eq_true_eq] at ok
  obtain ⟨⟨⟨o1, o2⟩, o3⟩, o4⟩ := ok
  have hlen : bs.length = its.length := by rw [rb.length, rv.length]
  refine PySem.W.gh_sorted_data (enc := pd) (bs := bs) hl.isList (each_VR rb rv) ?_ (fun d hd d' hd' => ?_) ?_ (by rw [rb.length]; exact hz) (fun b hb => ?_) fun out hlo eo => ?_
  · refine (PySem.W.each_mem (each_VR rb rv)).mono fun u b ⟨⟨x, q1, q2⟩, hb⟩ => ?_
    exact Dp.reads I _ _ _ (VR.dp (okVs_mem o1 hb) q2) q1
  · obtain ⟨b, hb, rfl⟩ := List.mem_map.mp hd
    obtain ⟨b', hb', rfl⟩ := List.mem_map.mp hd'
    exact List.all_eq_true.mp (List.all_eq_true.mp o2 b hb) b' hb'
  · simp only [Bool.or_eq_true] at o3
    rcases o3 with (o3 | o3) | o3
    · refine .inl (.inl fun d hd => ?_)
      obtain ⟨b, hb, rfl⟩ := List.mem_map.mp hd
      have := List.all_eq_true.mp o3 b hb
      unfold isNE at this
      split at this
      · exact ⟨_, _, by simp only [pd, pds]; rfl⟩
      · cases this
    · refine .inl (.inr fun d hd => ?_)
      obtain ⟨b, hb, rfl⟩ := List.mem_map.mp hd
      have := List.all_eq_true.mp o3 b hb
      unfold isPlainK at this
      split at this
      · exact ⟨by simp [pd], fun xs => by simp [pd]⟩
      · exact ⟨by simp [pd], fun xs => by simp [pd]⟩
      · exact ⟨by simp [pd], fun xs => by simp [pd]⟩
      · cases this
    · split at o3
      · exact .inr ⟨_, by simp only [List.map_cons, pd, pds]; rfl⟩
      · cases o3
  · have h1 := dpVs_mem hb
    rw [pd_depth]
    omega
  · obtain ⟨ys, r1, r2⟩ := VRs_each eo
    obtain ⟨ep, he'⟩ := PyProof.Rows.sortedAll_at s.heap its out.toArray
    have hlen2 : ys.length ≤ sizeLine := by rw [r2.length, hlo, rb.length]; exact hz
    exact ⟨.ref _, upd H (s.heap.objs.size + 1) (.lst ys), I.laid (t' := s.toks) (fun _ _ => PyProof.Rows.sortedAll_old) (Nat.le_succ _) ⟨hlen2, out, ep, r2, he'⟩, rfl, q ys _ r1 (I.hok.fresh (Nat.le_succ _))⟩
theorem sorted_at {g : Gh} {H : Hp} {h : Hv} {v : Val} {x : V} {l : List Val} {Q : VK} (R : HR X.K g H h) (r : VR X.K g H v x) (hl : lstOf h v = some l) (ok : sortOk l = true) (c : ∀ ys p, VRs X.K g H (sortV l) ys → H p = none → Q (.ref p) (upd H p (.lst ys))) : rSortG X.K [x] H Q := by
  obtain ⟨a, xs, rfl, s, rs⟩ := lstOf_ok R r hl
  exact ⟨g, a, xs, l, rfl, SqL.of s, rs, ok, c⟩
theorem c1_sorted (hu : X.A.units + 200 < cLine) : C1 X (.builtin "sorted") vSorted := ⟨_, cr_sortG hu, fun W g H h σ v x Q R r A => by
  unfold vSorted at A
  split at A
  · rename_i l hl
    split at A
    · rename_i ok
      refine sorted_at R r hl ok fun ys p ry np => ?_
      obtain ⟨E4, R4⟩ := R.grow (o := .lst ys) np
      refine A g _ (.ref p) E4 R4 ?_
      simp only [VR]
      exact ⟨p, _, rfl, R.fresh np, upd_same, ry.ext R E4⟩
    · exact A.elim
  · exact A.elim⟩
theorem c1_sortedM (hu : X.A.units + 200 < cLine) : C1 X (.builtin "sorted") vSortedM := ⟨_, cr_sortG hu, fun W g H h σ v x Q R r A => by
  unfold vSortedM at A
  split at A
  · rename_i l hl
    split at A
    · rename_i ok
      exact sorted_at R r hl ok fun ys p ry np => push_ok R A np fun E => ⟨ys, upd_same, ry.ext R E⟩
    · exact A.elim
  · exact A.elim⟩
end
end
end GH
set_option Elab.async false
set_option linter.all false
set_option maxRecDepth 100000
set_option maxHeartbeats 1000000
set_option autoImplicit false
/-! All defs at once: levels; the law's end. -/
namespace GH
open PySem PySem.Spec PyProof.Rows L2
variable [TheWorld]
abbrev Gam := Nat → DF
section
variable {X : Cx} {W : WX}
theorem takes0 : Takes X W0 := fun u s' ⟨_, _, _, _, _, _, _, _, _, _, _, _, _, _, _, _, w⟩ => w.elim
/-- arguments, with their number -/
structure GAN (X : Cx) (W : WX) (es : List Expr) (n : Nat) (d : DenG (List Val)) : Prop where
  ga : GA X W es d
  len : ∀ l h vs h', d l h = .ok vs h' → vs.length = n
theorem gan_nil : GAN X W [] 0 dNil := ⟨ga_nil, fun l h vs h' e => by
  simp only [dNil, Res.ok.injEq] at e
  rw [← e.1]; rfl⟩
theorem gan_cons {e : Expr} {es : List Expr} {n : Nat} {d : Den} {r : DenG (List Val)} (ha : GE X W e d) (hr : GAN X W es n r) (hs : starEach (e :: es) X.env = (false, eval e X.env) :: starEach es X.env := by rfl) : GAN X W (e :: es) (n + 1) (dCons d r) := by
  refine ⟨ga_cons ha hr.ga hs, fun l h vs h' q => ?_⟩
  unfold dCons at q
  cases e1 : d l h with
  | exc x h1 => rw [e1] at q; cases q
  | fail => rw [e1] at q; cases q
  | ok v h1 =>
    rw [e1] at q
    simp only [Res.bind_ok] at q
    cases e2 : r l h1 with
    | exc x h2 => rw [e2] at q; cases q
    | fail => rw [e2] at q; cases q
    | ok ws h2 =>
      rw [e2] at q
      simp only [Res.bind_ok, Res.ok.injEq] at q
      rw [← q.1, List.length_cons, hr.len _ _ _ _ e2]
end
/-- a def of the top keeps D -/
structure FnK (P : Program) (w : World) (K : PySem.W.Frag) (mg : Str → Option Value) (base : Heap) (k : Nat) (D : DF) (x : Str) (ps : List Str) : Prop where
  ok : ∃ fd, FnOk P w K mg base (L2.CX P w) k (He.ga K x) fd ps (spG K D ps.length) ∧ Binds K fd ps []
  glo : mg x = some (.ref (He.ga K x))
  keep : PySem.W.keepIn K (.ref (He.ga K x)) = true
section
variable {X : Cx} {W : WX}
theorem ge_fn {D : DF} {k n : Nat} {ps : List Str} {x : Str} {p pos : Pos} {e : Expr} {es : List Expr} {da : DenG (List Val)} (F : FnK X.prog X.w X.K X.mg X.base k D x ps) (hr : Room k X.A) (tk : Takes X W) (ha : GAN X W (e :: es) n da)
    (hn : n = ps.length := by rfl) (hg : Gl X x := by rfl) (hdb : (x == ("__debug__" : Str)) = false := by decide +kernel)
    (he : starEach (e :: es) X.env = (false, eval e X.env) :: starEach es X.env := by rfl) (hpl : (backTo pos (starEach es X.env)).any (·.1) = false := by rfl) : GE X W (.Call (.Name x p) (e :: es) [] pos) (dCall D da) := by
  obtain ⟨fd, F1, b⟩ := F.ok
  exact ge_call F1 hr tk F.glo F.keep b ha.ga (fun l h vs h' q => (ha.len l h vs h' q).trans hn) hg hdb he hpl
end
/-- the defs' promises -/
def AllK (P : Program) (w : World) (K : PySem.W.Frag) (mg : Str → Option Value) (base : Heap) (sig : List (Str × List Str)) (k : Nat) (Γ : Gam) : Prop := ∀ (j : Nat) (x : Str) (ps : List Str), sig[j]? = some (x, ps) → FnK P w K mg base k (Γ j) x ps
def lev (D : Gam → Gam) : Nat → Gam
  | 0 => fun _ _ _ => .fail
  | k + 1 => D (lev D k)
theorem levels {P : Program} {w : World} {K : PySem.W.Frag} {mg : Str → Option Value} {base : Heap} {sig : List (Str × List Str)} {D : Gam → Gam}
    (h0 : ∀ (j : Nat) (x : Str) (ps : List Str), sig[j]? = some (x, ps) → mg x = some (.ref (He.ga K x)) ∧ PySem.W.keepIn K (.ref (He.ga K x)) = true ∧ ∃ fd, Binds K fd ps [])
    (step : ∀ k Γ, AllK P w K mg base sig k Γ → ∀ (j : Nat) (x : Str) (ps : List Str), sig[j]? = some (x, ps) → FnK P w K mg base (k + 1) (D Γ j) x ps) : ∀ k, AllK P w K mg base sig k (lev D k)
  | 0 => fun j x ps e => by
    obtain ⟨g, kp, fd, b⟩ := h0 j x ps e
    refine ⟨⟨fd, ⟨fun vs H Q E h => h.1, fun A outer s H args us vs Q E hr he hb hv hs => ?_⟩, b⟩, g, kp⟩
    obtain ⟨_, _, _, _, _, _, z⟩ := hs
    exact z.elim
  | k + 1 => step k _ (levels h0 step k)
/-- what a law that answers True keeps -/
theorem sp_law {K : PySem.W.Frag} {D : DF} {H : Hp} {a : Addr} {ns : List Int} (hO : Only H) (hs : SqL K H a (ns.map V.int)) (hD : ∃ h', D [.fz (ns.map .int)] [] = .ok (.bl true) h') : spG K D 1 [.ref a] H (fun v _ => v = .bl true) fun _ _ _ => False := by
  obtain ⟨h', e⟩ := hD
  refine ⟨rfl, ⟨[], []⟩, [], [.fz (ns.map .int)], ⟨rfl, List.nodup_nil, fun a ha => absurd ha (by simp), fun a ha => absurd ha (by simp), fun i o a e1 e2 => by simp at e1⟩, ?_, ?_⟩
  · have hint : ∀ ns : List Int, VRs K ⟨[], []⟩ H (ns.map .int) (ns.map V.int) := by
      intro ns
      induction ns with
      | nil => exact VRs.nil
      | cons n ns ih => exact VRs.cons (by simp only [VR]) ih
    refine VRs.one ?_
    simp only [VR]
    refine ⟨a, _, rfl, ?_, hint ns⟩
    rcases hs with (hs | ⟨o, hs⟩) | hs
    · rcases hO a with q | ⟨o, xs, q⟩ <;> rw [q] at hs <;> cases hs
    · exact .inl ⟨o, hs⟩
    · exact .inr hs
  · rw [e]
    intro g' H' x E R r
    simpa only [VR] using r
end GH
set_option Elab.async false
set_option linter.all false
set_option maxRecDepth 100000
set_option maxHeartbeats 1000000
namespace PySem
open Sem (wp)
open AutoSeq1 (wpAny_loadPart')
set_option maxHeartbeats 1000000 in
theorem gh_enumerate_newT (l : Addr) (items : Array Value) (n : Nat) (dct : Option Addr) (sl : Array (Option Value)) :
    Meets (Builtin.«enumerate.__new__» ⟨[.type "enumerate", .ref l], []⟩) (fun _ R s => s.heap.get? l = some { cls := .type "tuple", dict := dct, data := .seq items n, slots := sl } ∧
      R (.ok (.ret (.ref (s.heap.push { cls := .type "tuple_iterator", data := .fields #[.ref l, .int 0 0] }).objs.size)))
        { s with heap := (s.heap.push { cls := .type "tuple_iterator", data := .fields #[.ref l, .int 0 0] }).push { cls := .type "enumerate", data := .fields #[.none, .bool false, .ref s.heap.objs.size, rawInt 0, .none, .none] } }) :=
  .of_wp fun prog w A R s h => by
    obtain ⟨hp, g, d, tk, os⟩ := s; obtain ⟨hl, h⟩ := h
    have hsub := sub_enumerate
    have hL : Heap.IsTuple (Shared.heap ⟨hp, g, d, tk, os⟩) l items := ⟨_, hl, rfl, n, rfl⟩
    wp_walk using wpAny_loadPart' hl
    refine wpAny_stack_any fun st => wpAny_pure ?_
    split
    · rename_i c _ _ _ _ _
      cases (c == Value.type "enumerate")
      · wp_walk using wpAny_loadPart' hl, wpAny_pyIter_tuple hL
        exact ⟨_, rfl, h⟩
      · wp_walk using wpAny_loadPart' hl, wpAny_pyIter_tuple hL
        exact ⟨_, rfl, h⟩
    · wp_walk using wpAny_loadPart' hl, wpAny_pyIter_tuple hL
      exact ⟨_, rfl, h⟩
section
variable {prog : Program} {w : World} {A : Around} {E : Value → Shared → Prop} {s : Shared}
theorem gh_call_enumerate_tuple {l : Addr} {items : Array Value} {Q : Value → Shared → Prop} (hL : s.heap.IsTuple l items)
    (h : ∀ h', IsEnum h' (s.heap.objs.size + 1) s.heap.objs.size 0 .none → h'.IsTupleIter s.heap.objs.size l 0 → h'.objs.size = s.heap.objs.size + 2 →
      (∀ b o, s.heap.get? b = some o → h'.get? b = some o) → Q (.ref (s.heap.objs.size + 1)) { s with heap := h' }) :
    wpAny (model prog w) A (call (.type "enumerate") [.ref l]) Q E s := by
  obtain ⟨⟨c, dct, dt, sl⟩, hl, hc, n, hd⟩ := hL
  replace hc : c = .type "tuple" := hc
  replace hd : dt = .seq items n := hd
  subst hc hd
  refine callType_new F.called_enumerate (by decide) (F.typeCall_enumerate_1 _) (F.newCall_enumerate_1 _) (fun obj => F.args_object_init_2 obj _) F.entry_enumerate_new
    (gh_enumerate_newT l items n dct sl) ⟨hl, ?_⟩
  have hz : (s.heap.push { cls := .type "tuple_iterator", data := .fields #[.ref l, .int 0 0] }).objs.size = s.heap.objs.size + 1 := Heap.size_push ..
  show _ ∧ _
  rw [hz]
  have he : IsEnum ((s.heap.push { cls := .type "tuple_iterator", data := .fields #[.ref l, .int 0 0] }).push
      { cls := .type "enumerate", data := .fields #[.none, .bool false, .ref s.heap.objs.size, rawInt 0, .none, .none] }) (s.heap.objs.size + 1) s.heap.objs.size 0 .none := by
    have := Heap.get?_push_size (s.heap.push { cls := .type "tuple_iterator", data := .fields #[.ref l, .int 0 0] })
      (o := { cls := .type "enumerate", data := .fields #[.none, .bool false, .ref s.heap.objs.size, rawInt 0, .none, .none] }) rfl
    rw [hz] at this; exact this
  exact ⟨⟨_, he, rfl⟩, h _ he ⟨_, Heap.get?_push_of_some _ (Heap.get?_push_size _ rfl), rfl, rfl⟩ (by rw [Heap.size_push, hz]) fun b o x => Heap.get?_push_of_some _ (Heap.get?_push_of_some _ x)⟩
end
end PySem
namespace GH
open PySem PySem.Spec PyProof.Rows L2
variable [TheWorld]
/-- the tuple at a, each item in a new pair -/
def IteT (K : PySem.W.Frag) (a : Addr) : It :=
  ⟨fun i H => ∃ (xs : List V) (x : V), SqT K H a xs ∧ xs[i]? = some x, fun i H v H' => ∃ T x, v = .ref T ∧ H T = none ∧ H' = upd H T (.tup [.int (i : Nat), x]) ∧ ∀ xs, SqT K H a xs → xs[i]? = some x, fun i H => ∃ xs : List V, SqT K H a xs ∧ xs.length ≤ i⟩
theorem turn_enumT {P : Program} {w : World} {K : PySem.W.Frag} {elts : List Expr} {kk : Nat} {tpos : Pos} (a e it : Addr) :
    Turn P w K (.Tuple elts kk tpos) (IteT K a) [e, it] e (fun i h => (∃ old, IsEnum h e it ((i : Nat) : Int) old) ∧ h.IsTupleIter it a i ∧ e ≠ it) where
  mem := by simp
  obj := fun i h st b hb => by
    obtain ⟨⟨old, he⟩, ⟨o, ho, hc, hd⟩, _⟩ := st
    have e' : b = e ∨ b = it := by simpa using hb
    rcases e' with z | z
    · rw [z]; exact ⟨_, he, fun v q => nomatch q⟩
    · rw [z]; exact ⟨o, ho, fun v q => by rw [hd] at q; cases q⟩
  keep := fun i h h' st k => let ⟨⟨old, he⟩, hi, hne⟩ := st; ⟨⟨old, k e (by simp) _ he⟩, hi.at fun o q => k it (by simp) o q, hne⟩
  item := by
    intro X hP hw hK hc i pins s σ H E I hf st hg
    subst hP hw hK
    obtain ⟨⟨old, he⟩, hit, hne⟩ := st
    obtain ⟨xs, x, hq, hx⟩ := hg
    obtain ⟨its, rv, p, hz⟩ := I.tuple hq
    obtain ⟨u, hu, ru⟩ := rv.get hx
    have p : s.heap.IsTuple a its.toArray := p
    have hel : e < s.heap.objs.size := Heap.lt_size he
    have hil : it < s.heap.objs.size := by obtain ⟨_, q, _⟩ := hit; exact Heap.lt_size q
    have nai : a ≠ it := by
      rintro rfl
      obtain ⟨o, ho, hc, _⟩ := hit
      obtain ⟨o2, ho2, hc2, _⟩ := p
      rw [ho] at ho2
      cases ho2
      rw [hc] at hc2
      exact absurd hc2 (by decide)
    have nae : e ∉ [it, a] := by
      intro z
      have z : e = it ∨ e = a := by simpa using z
      rcases z with z | rfl
      · exact hne z
      · obtain ⟨o2, ho2, hc2, _⟩ := p
        rw [he] at ho2
        cases ho2
        have hc2 : Value.type "enumerate" = Value.type "tuple" := hc2
        exact absurd hc2 (by decide)
    have D := Draws.tuple (prog := X.prog) (w := X.w) (A := X.A.in1) (I.ok.hd hc) it a nai its.toArray
    refine wpAny_pyNext_enum_itemD D he ⟨hit, p⟩ (by
      have := (List.getElem?_eq_some_iff.mp hu).1
      simpa using this) hne nae fun u' h' tk hP' ho hst' hT hsz hk => ?_
    obtain rfl : u = u' := by
      have : its[i]? = some u' := by simpa using hP'
      rw [hu] at this
      exact Option.some.inj this
    refine ⟨_, rfl, wpAny_letOwnedTupleGo_enum (s := { s with heap := h', toks := tk + 1 }) ho fun h'' he' sb => ?_⟩
    have hT2 : h''.get? s.heap.objs.size = some { cls := .type "tuple", data := .seq #[.int i tk, u] } := (sb.2 _ (Nat.ne_of_gt hel)).trans hT
    have new : ObjOk X.prog X.w (upd H s.heap.objs.size (.tup [.int (i : Nat), x])) h'' s.heap.objs.size (.tup [.int (i : Nat), x]) :=
      ⟨by show 2 ≤ sizeLine; decide, [.int i tk, u], .cons ⟨_, rfl⟩ (.cons ru .nil), ⟨_, hT2, rfl, _, rfl⟩⟩
    have I1 : Inv X pins σ (upd H s.heap.objs.size (.tup [.int (i : Nat), x])) { s with heap := h'', toks := tk + 1 } :=
      I.turnedNew (ch := [e, it]) (fun b ob hb q => (sb.2 b (fun z => hb (by simp [z]))).trans (hk b ob (fun z => hb (by simp [z])) (fun z => hb (by simp [z])) q)) hf (Nat.le_refl _) new
    refine ⟨.ref s.heap.objs.size, _, I1, rfl, ⟨_, x, rfl, I.hok.fresh (Nat.le_refl _), rfl, fun ys hy => by rw [I.tuple_inj hy hq]; exact hx⟩, ⟨⟨u, ?_⟩, hst'.1.at fun o q => (sb.2 it (Ne.symm hne)).trans q, hne⟩, fun b hb => ?_⟩
    · have e1 : ((i + 1 : Nat) : Int) = (i : Int) + 1 := by omega
      rw [e1]; exact he'
    · have hb' : b < s.heap.objs.size := by
        have e' : b = e ∨ b = it := by simpa using hb
        rcases e' with z | z
        · rw [z]; exact hel
        · rw [z]; exact hil
      rw [upd_ne (Nat.ne_of_lt hb')]
      exact (hf b hb).1
  done := by
    intro X hP hw hK hc i pins s σ H E I hf st hg
    subst hP hw hK
    obtain ⟨⟨old, he⟩, hit, hne⟩ := st
    obtain ⟨xs, hq, hx⟩ := hg
    obtain ⟨its, rv, p, hz⟩ := I.tuple hq
    have p : s.heap.IsTuple a its.toArray := p
    obtain ⟨f0, f1, f2, f3, f4, f5⟩ := hf it (by simp)
    have hl := rv.length
    have hT : s.TypeIs (.ref e) "enumerate" := ⟨_, he, rfl⟩
    unfold pyNext
    refine wpAny_bind (wpAny_attempt (wpAny_callSpecial?_slot (name := Str.ofString "__next__") hT F.slot_enumerate_next
      (wpAny_call_entry F.slot_enumerate_next hT F.entry_enumerate_next ?_ (F.args_enumerate_next_1 _))))
    show wpAny _ _ (field (.ref e) 2 >>= _) _ _ _
    refine wpAny_bind (wpAny_field he rfl (x := .ref it) rfl ?_)
    refine wpAny_bind (wpAny_nextOf_tuple_end (A := X.A.in1) (I.ok.hd hc) hit p (by simp; omega) fun h' x eb hx' => ?_)
    obtain ⟨o, ho, hc⟩ := hx'
    refine wpAny_bind (wpAny_isInstance (T := "StopIteration") (b := true) ⟨o, ho, hc⟩ isSubtype_stop ?_)
    exact wpAny_pure ⟨rfl, I.turned (t' := s.toks) (fun b o hb q => eb b o hb q) f0 f1 f3 f4 f5⟩
  self := fun A i s Q E st h => let ⟨⟨_, he⟩, _⟩ := st; wpAny_pyIter_enum he h
section
def enumL (l : List Val) : List Val := l.mapIdx fun i v => .tup [.int (i : Nat), v]
def vEnum (v : Val) (h : Hv) : Res Src := match v with
  | .tup l => .ok (enumL l, none) h
  | .lst l => .ok (enumL l, none) h
  | .fz l => .ok (enumL l, none) h
  | _ => .fail
def iEnumG (d : Den) : DenG Src := fun l h => (d l h).bind vEnum
variable {K : PySem.W.Frag} {g0 g : Gh} {H0 H : Hp}
theorem serves_pairs {J : It} {xs : List V} {l : List Val} {G : Hp → Prop} {h : Hv} (R0 : HR K g0 H0 h) (w : Walk J xs.length G (YPair (fun i => some (.int (i : Nat))) (fun i => xs[i]?))) (hG : ∀ g H, ExtS g0 H0 g H → G H) (r : VRs K g0 H0 l xs) :
    Serves K J g0 H0 (enumL l, none) :=
  serves_of (n := xs.length) (by simp [enumL, r.length]) fun g H h E R _ => ⟨_, _, w, hG g H E, fun i x H' v hv y => by
    obtain ⟨T, x1, y1, rfl, nT, rfl, e1, e2⟩ := y
    unfold enumL at hv
    rw [List.getElem?_mapIdx] at hv
    cases ez : l[i]? with
    | none => rw [ez] at hv; cases hv
    | some p =>
      rw [ez] at hv
      simp at hv
      subst hv
      obtain ⟨a2, b2, c2⟩ := r.get ez
      have e1 : some (V.int (i : Nat)) = some x1 := e1
      have e2 : xs[i]? = some y1 := e2
      rw [e2] at b2; cases b2
      cases e1
      obtain ⟨E4, R4⟩ := R.grow (o := .tup [.int (i : Nat), y1]) nT
      refine ⟨E4, R4, ?_⟩
      simp only [VR]
      exact ⟨T, _, rfl, SqT.of upd_same, VRs.cons (by simp only [VR]) (.one ((c2.extS R0 E).ext R E4))⟩⟩
theorem walk_enumT {a : Addr} {xs : List V} : Walk (IteT K a) xs.length (fun H => SqT K H a xs) (YPair (fun i => some (.int (i : Nat))) (fun i => xs[i]?)) :=
  ⟨fun i _ hi q => ⟨xs, xs[i], q, by simp [hi]⟩, fun _ q => ⟨xs, q, Nat.le_refl _⟩, fun i H x H' _ q y => by
    obtain ⟨T, z, e1, e2, e3, e4⟩ := y
    exact ⟨T, _, z, e1, e2, e3, rfl, e4 xs q⟩⟩
variable {X : Cx} {W : WX}
theorem gi_enum {e : Expr} {d : Den} {p pos tpos : Pos} {elts : List Expr} {kk : Nat} (he : GE X W e d) (hm : X.mg "enumerate" = none) (hg : Gl X "enumerate" := by rfl) (hs : starEach [e] X.env = (false, eval e X.env) :: starEach [] X.env := by rfl) (hs1 : starEach [e] X.env = [(false, eval e X.env)] := by rfl) :
    GI X W (.Tuple elts kk tpos) (.Call (.Name "enumerate" p) [e] [] pos) (iEnumG d) := by
  refine ⟨fun pins s σ H R I ⟨g, l, h, S, Rh, A⟩ => ?_⟩
  have start : tCons (tG X.K W (vr X.K) d) tNil σ H fun vs H1 => ∃ x v h1 g1, vs = [x] ∧ HR X.K g1 H1 h1 ∧ VR X.K g1 H1 v x ∧ AfterI X.K W σ g1 H1 R (vEnum v h1) :=
    tG_I S Rh A fun v h1 g1 H1 x E S1 R1 r1 A1 => ⟨x, v, h1, g1, rfl, R1, r1, A1⟩
  refine Call_ (ld_blt I hg hm boot_enumerate (PyProof.Rows.callWith_type1 (thn ((pa_cons he pa_nil hs).run pos pins s σ H _ I start) fun us s1 ⟨vs, H1, I1, r1, q1⟩ => ?_) hs1 rfl))
  obtain ⟨x, v, h1, g1, rfl, R1, rv, A1⟩ := q1
  cases r1 with
  | cons r rr =>
    cases rr
    have fp : ∀ b ∈ [s1.heap.objs.size + 1, s1.heap.objs.size], FpOk X pins H1 b := fun b hb => by
      have e' : b = s1.heap.objs.size + 1 ∨ b = s1.heap.objs.size := by simpa using hb
      have hle : s1.heap.objs.size ≤ b := by
        rcases e' with z | z
        · rw [z]; exact Nat.le_add_right _ _
        · rw [z]; exact Nat.le_refl _
      exact I1.fpOk hle (I1.hok.fresh hle)
    cases v with
    | tup items =>
      simp only [VR] at rv
      obtain ⟨a, xs, rfl, hq, rs⟩ := rv
      cases r
      obtain ⟨its, rv, p', hz⟩ := I1.tuple hq
      refine PySem.gh_call_enumerate_tuple (show s1.heap.IsTuple a its.toArray from p') fun h' he hit hsz hk => wpAny_pyIter_enum he ?_
      have I2 : Inv X pins σ H1 { s1 with heap := h' } := I1.kept (t' := s1.toks) hk
      exact ⟨s1.heap.objs.size + 1, [s1.heap.objs.size + 1, s1.heap.objs.size], _, _, H1, rfl, I2, turn_enumT a (s1.heap.objs.size + 1) s1.heap.objs.size, ⟨⟨.none, he⟩, hit, Nat.succ_ne_self _⟩, fp,
        A1.2 g1 H1 _ Ext.refl R1 (by simp only [enumL, List.length_mapIdx, rs.length]; exact hz) (serves_pairs R1 walk_enumT (fun g H E => sqT_ext R1 E hq) rs)⟩
    | lst items =>
      simp only [VR] at rv
      obtain ⟨a, xs, rfl, na, hq, rs⟩ := rv
      cases r
      obtain ⟨its, rv, p', hz⟩ := I1.list (SqL.of hq)
      refine call_enumerate_list p'.isList fun h' he hit hsz hk => wpAny_pyIter_enum he ?_
      have I2 : Inv X pins σ H1 { s1 with heap := h' } := I1.kept (t' := s1.toks) hk
      exact ⟨s1.heap.objs.size + 1, [s1.heap.objs.size + 1, s1.heap.objs.size], _, _, H1, rfl, I2, turn_enum a (s1.heap.objs.size + 1) s1.heap.objs.size, ⟨⟨.none, he⟩, hit, Nat.succ_ne_self _⟩, fp,
        A1.2 g1 H1 _ Ext.refl R1 (by simp only [enumL, List.length_mapIdx, rs.length]; exact hz) (serves_pairs R1 walk_enum (fun g H E => sqL_ext R1 E na (SqL.of hq)) rs)⟩
    | fz items =>
      simp only [VR] at rv
      obtain ⟨a, xs, rfl, hq, rs⟩ := rv
      cases r
      obtain ⟨its, rv, p', hz⟩ := I1.list hq.sq
      refine call_enumerate_list p'.isList fun h' he hit hsz hk => wpAny_pyIter_enum he ?_
      have I2 : Inv X pins σ H1 { s1 with heap := h' } := I1.kept (t' := s1.toks) hk
      exact ⟨s1.heap.objs.size + 1, [s1.heap.objs.size + 1, s1.heap.objs.size], _, _, H1, rfl, I2, turn_enum a (s1.heap.objs.size + 1) s1.heap.objs.size, ⟨⟨.none, he⟩, hit, Nat.succ_ne_self _⟩, fp,
        A1.2 g1 H1 _ Ext.refl R1 (by simp only [enumL, List.length_mapIdx, rs.length]; exact hz) (serves_pairs R1 walk_enum (fun g H E => (hq.imp fun o s => E.keep _ _ s (R1.not_own s fun z => z)).sq) rs)⟩
    | _ => exact A1.elim
end
/-! ### a, b = x, y -/
section
variable {X : Cx} {W : WX}
def sPar (i j : Nat) (d : DenG (List Val)) : Stm := fun l h => (d l h).to l fun vs h1 => match vs with
  | [v, w] => .nx ((l.set i (some v)).set j (some w)) h1
  | _ => .fail
theorem gs_par (i j : Nat) {x y : Str} {a b : Expr} {d : DenG (List Val)} {px py pt pos : Pos} {kt k2 pt2} (hc : X.calm = true) (hN : X.N.Nodup) (ha : GA X W [a, b] d) (hi : X.N[i]? = some x := by rfl) (hj : X.N[j]? = some y := by rfl) (hij : i ≠ j := by decide)
    (hx : X.env.scope.names.lookup x = some .local := by rfl) (hy : X.env.scope.names.lookup y = some .local := by rfl)
    (hw : swappedStores [.Tuple [.Name x px, .Name y py] kt pt] (.Tuple [a, b] k2 pt2) X.env = pure (some [x, y]) := by rfl)
    (hs : swapsWithSole [.Tuple [.Name x px, .Name y py] kt pt] (.Tuple [a, b] k2 pt2) pos.line X.env = pure false := by rfl) :
    GS X W (.Assign [.Tuple [.Name x px, .Name y py] kt pt] (.Tuple [a, b] k2 pt2) pos) (sPar i j d) := by
  refine PS.imp (ps_par hc hN hi hj hij hx hy ha hw hs) fun D σ H ⟨g, l, h, S, R, A⟩ => ?_
  refine tG_to S R A fun vs h1 g1 H1 xs E S1 R1 r1 A1 => ?_
  split at A1
  · rename_i v w
    have r1 : VRs X.K g1 H1 [v, w] xs := r1
    simp only [VRs] at r1
    obtain ⟨x1, _, rfl, rx, x2, _, rfl, ry, rfl⟩ := r1
    exact ⟨x1, x2, rfl, A1 g1 H1 _ Ext.refl R1 ((S1.set i rx).set j ry)⟩
  · exact A1.elim
end
end GH
set_option Elab.async false
set_option linter.all false
set_option autoImplicit false
namespace GH
open PySem PySem.Spec PyProof.Rows L2
variable [TheWorld]
def CXA (P : Program) : CXT := fun outer H s E u s' => ∃ w, L2.CX P w outer H s E u s'
theorem cxa_none {P : Program} (H : Hp) (s : Shared) (e : Value) (s' : Shared) (h : CXA P [] H s (fun _ _ _ => False) e s') : False := by
  obtain ⟨w, h⟩ := h
  obtain ⟨_, _, _, _, _, _, _, _, _, _, _, _, z⟩ := h
  exact z
theorem fn_cxa {P : Program} {w : World} {K : PySem.W.Frag} {mg : Str → Option Value} {base : Heap} {k : Nat} {f : Addr} {fd : FuncData} {ps : List Str} {sp : Sp} (F : FnOk P w K mg base (L2.CX P w) k f fd ps sp) : FnOk P w K mg base (CXA P) k f fd ps sp :=
  ⟨F.len, fun A outer s H args us vs Q E hr he hb hv hs => PySem.codeAny_mono (F.run A outer s H args us vs Q E hr he hb hv hs) fun r s' c => by
    unfold CR at c ⊢
    split at c
    · exact c
    · exact c
    · exact ⟨w, c⟩⟩
theorem glo_of {K : PySem.W.Frag} {mg : Str → Option Value} {base : Heap} (X : K.In base) (G : base.Ns mainGlobals mg) {x : Str} (c : (He.Fa.glo x).ok K = true) : mg x = some (.ref (He.ga K x)) := He.glo_ok X G c
end GH
set_option Elab.async false
set_option linter.all false
set_option maxRecDepth 100000
set_option maxHeartbeats 1000000
set_option autoImplicit false
/-! Plain reasoning about the functions. -/
namespace GH
open PySem
variable [TheWorld]
/-! ### what holds behind -/
def ok {α : Type} (r : Res α) (P : α → Hv → Prop) : Prop := match r with
  | .ok v h => P v h
  | _ => False
@[simp] theorem ok_ok {α : Type} (v : α) (h : Hv) (P : α → Hv → Prop) : ok (.ok v h) P = P v h := rfl
@[simp] theorem ok_fail {α : Type} (P : α → Hv → Prop) : ok (.fail : Res α) P = False := rfl
@[simp] theorem ok_exc {α : Type} (e : Ex) (h : Hv) (P : α → Hv → Prop) : ok (.exc e h : Res α) P = False := rfl
@[simp] theorem ok_bind {α β : Type} (r : Res α) (k : α → Hv → Res β) (P : β → Hv → Prop) : ok (r.bind k) P = ok r fun v h => ok (k v h) P := by
  cases r <;> rfl
theorem ok_imp {α : Type} {r : Res α} {P Q : α → Hv → Prop} (h : ok r P) (i : ∀ v h, P v h → Q v h) : ok r Q := by
  cases r with
  | ok v h1 => exact i _ _ h
  | exc e h1 => exact h
  | fail => exact h
theorem ok_eq {α : Type} {r : Res α} {P : α → Hv → Prop} (h : ok r P) : ∃ v h', r = .ok v h' ∧ P v h' := by
  cases r with
  | ok v h1 => exact ⟨v, h1, rfl, h⟩
  | exc e h1 => exact h.elim
  | fail => exact h.elim
theorem ok_ite {α : Type} {c : Prop} [Decidable c] {a b : Res α} {P : α → Hv → Prop} : ok (if c then a else b) P ↔ (c → ok a P) ∧ (¬c → ok b P) := by
  by_cases h : c <;> simp [h]
structure Post where
  nx : Loc → Hv → Prop := fun _ _ => False
  rt : Val → Hv → Prop := fun _ _ => False
  bk : Loc → Hv → Prop := fun _ _ => False
  ct : Loc → Hv → Prop := fun _ _ => False
def sok (r : SRes) (P : Post) : Prop := match r with
  | .nx l h => P.nx l h
  | .rt v h => P.rt v h
  | .bk l h => P.bk l h
  | .ct l h => P.ct l h
  | _ => False
@[simp] theorem sok_nx (l : Loc) (h : Hv) (P : Post) : sok (.nx l h) P = P.nx l h := rfl
@[simp] theorem sok_rt (v : Val) (h : Hv) (P : Post) : sok (.rt v h) P = P.rt v h := rfl
@[simp] theorem sok_bk (l : Loc) (h : Hv) (P : Post) : sok (.bk l h) P = P.bk l h := rfl
@[simp] theorem sok_ct (l : Loc) (h : Hv) (P : Post) : sok (.ct l h) P = P.ct l h := rfl
@[simp] theorem sok_fail (P : Post) : sok .fail P = False := rfl
@[simp] theorem sok_exc (e : Ex) (l : Loc) (h : Hv) (P : Post) : sok (.exc e l h) P = False := rfl
@[simp] theorem sok_to {α : Type} (r : Res α) (l : Loc) (k : α → Hv → SRes) (P : Post) : sok (r.to l k) P = ok r fun v h => sok (k v h) P := by
  cases r <;> rfl
@[simp] theorem sok_then (r : SRes) (k : Stm) (P : Post) : sok (r.andThen k) P = sok r { P with nx := fun l h => sok (k l h) P } := by
  cases r <;> rfl
@[simp] theorem sok_turn (r : SRes) (k : Stm) (P : Post) : sok (r.turn k) P = sok r { P with nx := fun l h => sok (k l h) P, ct := fun l h => sok (k l h) P, bk := P.nx } := by
  cases r <;> rfl
theorem sok_ite {c : Prop} [Decidable c] {a b : SRes} {P : Post} : sok (if c then a else b) P ↔ (c → sok a P) ∧ (¬c → sok b P) := by
  by_cases h : c <;> simp [h]
theorem sok_imp {r : SRes} {P Q : Post} (h : sok r P) (n : ∀ l h, P.nx l h → Q.nx l h) (t : ∀ v h, P.rt v h → Q.rt v h) (b : ∀ l h, P.bk l h → Q.bk l h) (c : ∀ l h, P.ct l h → Q.ct l h) : sok r Q := by
  cases r with
  | nx l h1 => exact n _ _ h
  | rt v h1 => exact t _ _ h
  | bk l h1 => exact b _ _ h
  | ct l h1 => exact c _ _ h
  | exc e l h1 => exact h.elim
  | fail => exact h.elim
@[simp] theorem ok_run (n : Nat) (b : Stm) (args : List Val) (h : Hv) (P : Val → Hv → Prop) : ok (runDef n b args h) P = sok (b (args.map some ++ List.replicate (n - args.length) none) h) { nx := fun _ h => P .non h, rt := P } := by
  unfold runDef
  cases b (args.map some ++ List.replicate (n - args.length) none) h <;> rfl
def tok (r : TRes) (P : Loc → Hv → Prop) : Prop := match r with
  | .ok l h => P l h
  | _ => False
@[simp] theorem sok_s (r : TRes) (P : Post) : sok r.s P = tok r P.nx := by cases r <;> rfl
@[simp] theorem tok_ok (l : Loc) (h : Hv) (P : Loc → Hv → Prop) : tok (.ok l h) P = P l h := rfl
@[simp] theorem tok_fail (P : Loc → Hv → Prop) : tok .fail P = False := rfl
@[simp] theorem tok_toT {α : Type} (r : Res α) (l : Loc) (k : α → Hv → TRes) (P : Loc → Hv → Prop) : tok (r.toT l k) P = ok r fun v h => tok (k v h) P := by cases r <;> rfl
@[simp] theorem tok_bind (r : TRes) (k : Loc → Hv → TRes) (P : Loc → Hv → Prop) : tok (r.bind k) P = tok r fun l h => tok (k l h) P := by cases r <;> rfl

/-! ### the combinators, read at a state -/
section
variable (l : Loc) (h : Hv)
@[simp] theorem e_seq (a b : Stm) : sSeq a b l h = (a l h).andThen b := rfl
@[simp] theorem e_next : sNext l h = .nx l h := rfl
@[simp] theorem e_ret (d : Den) : sRet d l h = (d l h).to l .rt := rfl
@[simp] theorem e_retN : sRetN l h = .rt .non h := rfl
@[simp] theorem e_expr (d : Den) : sExpr d l h = (d l h).to l fun _ h1 => .nx l h1 := rfl
@[simp] theorem e_if (c : DenG Bool) (a b : Stm) : sIf c a b l h = (c l h).to l fun t h1 => if t then a l h1 else b l h1 := rfl
@[simp] theorem e_break : sBreak l h = .bk l h := rfl
@[simp] theorem e_cont : sCont l h = .ct l h := rfl
@[simp] theorem e_asg (d : Den) (t : Tg) : sAsg d t l h = (d l h).to l fun v h1 => (t v l h1).s := rfl
@[simp] theorem e_name (i : Nat) (v : Val) : gName i v l h = .ok (l.set i (some v)) h := rfl
@[simp] theorem e_for (di : DenG Src) (t : Tg) (b : Stm) : sFor di t b l h = (di l h).to l fun s h1 => forL t b s s.1 l h1 := rfl
@[simp] theorem e_c (v : Val) : dC v l h = .ok v h := rfl
@[simp] theorem e_nil : dNil l h = .ok [] h := rfl
@[simp] theorem e_cons (d : Den) (r : DenG (List Val)) : dCons d r l h = (d l h).bind fun v h1 => (r l h1).bind fun vs h2 => .ok (v :: vs) h2 := rfl
@[simp] theorem e_tup (r : DenG (List Val)) : dTup r l h = (r l h).bind mkTup := rfl
@[simp] theorem e_lst (r : DenG (List Val)) : dLst r l h = (r l h).bind mkLst := rfl
@[simp] theorem e_lstM (r : DenG (List Val)) : dLstM r l h = (r l h).bind mkRef := rfl
@[simp] theorem e_bin (f : Val → Val → Hv → Res Val) (a b : Den) : dBin f a b l h = (a l h).bind fun v h1 => (b l h1).bind fun u h2 => f v u h2 := rfl
@[simp] theorem e_b (d : Den) : dB d l h = resB (d l h) := rfl
@[simp] theorem e_and (a b : DenG Bool) : dAnd a b l h = (a l h).bind fun c h1 => if c then b l h1 else .ok false h1 := rfl
@[simp] theorem e_or (a b : DenG Bool) : dOr a b l h = (a l h).bind fun c h1 => if c then .ok true h1 else b l h1 := rfl
@[simp] theorem e_not (a : DenG Bool) : dNot a l h = (a l h).bind fun c h1 => .ok (!c) h1 := rfl
@[simp] theorem e_dif (c : DenG Bool) (a b : Den) : dIf c a b l h = (c l h).bind fun t h1 => if t then a l h1 else b l h1 := rfl
@[simp] theorem e_call (D : DF) (r : DenG (List Val)) : dCall D r l h = (r l h).bind fun vs h1 => D vs h1 := rfl
@[simp] theorem e_fn (f : Val → Hv → Res Val) (d : Den) : dFn f d l h = (d l h).bind f := rfl
@[simp] theorem e_len (d : Den) : dLen d l h = (d l h).bind vLen := rfl
@[simp] theorem e_tru (d : Den) : dTru d l h = (d l h).bind vTru := rfl
@[simp] theorem e_iseq (d : Den) : iSeq d l h = (d l h).bind vIter := rfl
@[simp] theorem e_rng1 (d : Den) : iRange1 d l h = (d l h).bind vRange1 := rfl
@[simp] theorem e_rng2 (a b : Den) : iRange2 a b l h = (a l h).bind fun v h1 => (b l h1).bind fun u h2 => vRange2 v u h2 := rfl
@[simp] theorem e_enum (d : Den) : iEnumG d l h = (d l h).bind vEnum := rfl
@[simp] theorem e_yes : dYes l h = .ok true h := rfl
@[simp] theorem e_cut (d : Den) (lo hi : DO) : dCut d lo hi l h = (d l h).bind fun v h1 => (lo l h1).bind fun a h2 => (hi l h2).bind fun b h3 => vCut v a b h3 := rfl
@[simp] theorem e_onone : oNone l h = .ok none h := rfl
@[simp] theorem e_newd : dNewD l h = .ok (.ref h.length) (h ++ [.dic []]) := rfl
@[simp] theorem e_meth1 (p : Hv → Val → Bool) (f : Val → Val → Hv → Res Val) (o e : Den) : dMeth1 p f o e l h = (o l h).bind fun x h1 => if p h1 x = true then (e l h1).bind fun v h2 => f x v h2 else .fail := rfl
@[simp] theorem e_meth0 (p : Hv → Val → Bool) (f : Val → Hv → Res Val) (o : Den) : dMeth0 p f o l h = (o l h).bind fun x h1 => if p h1 x = true then f x h1 else .fail := rfl
@[simp] theorem e_sub (o i : Den) (v : Val) : gSub o i v l h = (o l h).toT l fun x h1 => (i l h1).toT l fun y h2 => match vSet x y v h2 with
  | some h3 => .ok l h3
  | none => .fail := rfl
end
/-- one statement, what holds behind it, the rest -/
theorem sok_seq {a b : Stm} {l : Loc} {h : Hv} {P : Post} (R : Loc → Hv → Prop) (h1 : sok (a l h) { P with nx := R }) (h2 : ∀ l h, R l h → sok (b l h) P) : sok (sSeq a b l h) P := by
  rw [e_seq, sok_then]
  exact sok_imp h1 (fun l h r => h2 l h r) (fun _ _ z => z) (fun _ _ z => z) (fun _ _ z => z)
theorem ok_resB {r : Res Val} {P : Bool → Hv → Prop} (k : ok r fun v h => ∃ b, v = .bl b ∧ P b h) : ok (resB r) P := by
  cases r with
  | ok v h =>
    obtain ⟨b, rfl, p⟩ := k
    exact p
  | exc e h => exact k.elim
  | fail => exact k.elim
@[simp] theorem resB_bl (b : Bool) (h : Hv) : resB (.ok (.bl b) h) = .ok b h := rfl
@[simp] theorem vTru_bl (b : Bool) (h : Hv) : vTru (.bl b) h = .ok b h := rfl
@[simp] theorem ok_resB_eq {r : Res Val} {P : Bool → Hv → Prop} : ok (resB r) P = ok r fun v h => match v with
  | .bl b => P b h
  | _ => False := by
  cases r with
  | ok v h => cases v <;> rfl
  | exc e h => rfl
  | fail => rfl
/-- a loop over items, an invariant over what is left -/
theorem forL_inv {t : Tg} {b : Stm} {s : Src} {P : Post} (I : List Val → Loc → Hv → Prop)
    (step : ∀ x r l h, I (x :: r) l h → srcOk s h ∧ tok (t x l h) fun l1 h1 => sok (b l1 h1) { nx := fun l2 h2 => I r l2 h2, ct := fun l2 h2 => I r l2 h2, bk := P.nx, rt := P.rt })
    (done : ∀ l h, I [] l h → srcOk s h ∧ P.nx l h) : ∀ (items : List Val) (l : Loc) (h : Hv), I items l h → sok (forL t b s items l h) P
  | [], l, h, i => by
    obtain ⟨a, q⟩ := done l h i
    simp only [forL, if_pos a, sok_nx]
    exact q
  | x :: r, l, h, i => by
    obtain ⟨a, q⟩ := step x r l h i
    simp only [forL, if_pos a]
    cases e : t x l h with
    | ok l1 h1 =>
      rw [e] at q
      simp only [tok_ok] at q
      simp only [sok_turn]
      exact sok_imp q (fun l2 h2 i2 => forL_inv I step done r l2 h2 i2) (fun _ _ z => z) (fun _ _ z => z) (fun l2 h2 i2 => forL_inv I step done r l2 h2 i2)
    | exc x1 l1 h1 => rw [e] at q; exact q.elim
    | fail => rw [e] at q; exact q.elim
/-- a comprehension's items, an invariant -/
theorem lcL_inv {t : Tg} {c : DenG Bool} {e : Den} {s : Src} {P : List Val → Hv → Prop} (I : List Val → List Val → Hv → Prop) {l : Loc}
    (step : ∀ x r acc h, I (x :: r) acc h → srcOk s h ∧ tok (t x l h) fun l1 h1 => ok (c l1 h1) fun b h2 => if b then ok (e l1 h2) fun v h3 => I r (acc ++ [v]) h3 else I r acc h2)
    (done : ∀ acc h, I [] acc h → srcOk s h ∧ P acc h) : ∀ (items acc : List Val) (h : Hv), I items acc h → ok (lcL t c e s items acc l h) P
  | [], acc, h, i => by
    obtain ⟨a, q⟩ := done acc h i
    simp only [lcL, if_pos a, ok_ok]
    exact q
  | x :: r, acc, h, i => by
    obtain ⟨a, q⟩ := step x r acc h i
    simp only [lcL, if_pos a]
    cases et : t x l h with
    | ok l1 h1 =>
      rw [et] at q
      simp only [tok_ok] at q
      dsimp only
      cases ec : c l1 h1 with
      | ok b h2 =>
        rw [ec] at q
        simp only [ok_ok] at q
        dsimp only
        cases b with
        | true =>
          simp only [if_true] at q ⊢
          cases ee : e l1 h2 with
          | ok v h3 =>
            rw [ee] at q
            exact lcL_inv I step done r (acc ++ [v]) h3 q
          | exc x1 h3 => rw [ee] at q; exact q.elim
          | fail => rw [ee] at q; exact q.elim
        | false => exact lcL_inv I step done r acc h2 (by simpa using q)
      | exc x1 h2 => rw [ec] at q; exact q.elim
      | fail => rw [ec] at q; exact q.elim
    | exc x1 l1 h1 => rw [et] at q; exact q.elim
    | fail => rw [et] at q; exact q.elim
@[simp] theorem ok_dLc {fin : List Val → Hv → Res Val} {vs : List Nat} {di : DenG Src} {t : Tg} {c : DenG Bool} {e : Den} {l : Loc} {h : Hv} {P : Val → Hv → Prop} :
    ok (dLc fin vs di t c e l h) P = ok (di l h) fun s h1 => ok (lcL t c e s s.1 [] (wipeL l vs) h1) fun ys h2 => ok (fin ys h2) P := by
  simp only [dLc, ok_bind]
@[simp] theorem ok_frozen (ys : List Val) (h : Hv) (P : Val → Hv → Prop) : ok (frozen ys h) P = P (.lst ys) h := rfl
@[simp] theorem ok_ours (ys : List Val) (h : Hv) (P : Val → Hv → Prop) : ok (ours ys h) P = P (.ref h.length) (h ++ [.lst ys]) := rfl
/-- a comprehension that draws nothing: map and filter -/
theorem lc_pure {t : Tg} {c : DenG Bool} {e : Den} {s : Src} {l : Loc} {h : Hv} {P : List Val → Hv → Prop} (f : Val → Bool) (g : Val → Val) (hs : srcOk s h)
    (step : ∀ x ∈ s.1, tok (t x l h) fun l1 h1 => h1 = h ∧ c l1 h = .ok (f x) h ∧ (f x = true → e l1 h = .ok (g x) h)) (done : P ((s.1.filter f).map g) h) : ok (lcL t c e s s.1 [] l h) P := by
  have gen : ∀ (items acc : List Val), (∀ x ∈ items, x ∈ s.1) → ok (lcL t c e s items acc l h) fun ys h2 => h2 = h ∧ ys = acc ++ (items.filter f).map g := by
    intro items
    induction items with
    | nil => intro acc _; simp only [lcL, if_pos hs, ok_ok]; simp
    | cons x r ih =>
      intro acc hm
      have q := step x (hm x (List.mem_cons_self ..))
      simp only [lcL, if_pos hs]
      cases et : t x l h with
      | ok l1 h1 =>
        rw [et] at q
        obtain ⟨rfl, q1, q2⟩ := q
        dsimp only
        rw [q1]
        dsimp only
        cases ef : f x with
        | true =>
          simp only [if_true]
          rw [q2 ef]
          dsimp only
          refine ok_imp (ih (acc ++ [g x]) fun y hy => hm y (List.mem_cons_of_mem _ hy)) fun v h2 z => ⟨z.1, ?_⟩
          rw [z.2]; simp [ef]
        | false =>
          refine ok_imp (ih acc fun y hy => hm y (List.mem_cons_of_mem _ hy)) fun v h2 z => ⟨z.1, ?_⟩
          rw [z.2]; simp [ef]
      | exc x1 l1 h1 => rw [et] at q; exact q.elim
      | fail => rw [et] at q; exact q.elim
  refine ok_imp (gen s.1 [] fun x hx => hx) fun v h2 z => ?_
  obtain ⟨rfl, rfl⟩ := z
  simpa using done

/-! ### tidy -/
theorem frzs_self {f : Nat → Option Val} : ∀ {v : Val}, okV v = true → frz f v = some v := by
  intro v
  exact Val.rec (motive_1 := fun v => okV v = true → frz f v = some v) (motive_2 := fun l => okVs l = true → frzs f l = some l)
    (fun _ => rfl) (fun _ _ => rfl) (fun _ _ => rfl) (fun _ _ => rfl)
    (fun l ih o => by simp only [okV] at o; simp only [frz, ih o, Option.map_some])
    (fun l ih o => by simp only [okV] at o; simp only [frz, ih o, Option.map_some])
    (fun l ih o => by simp only [okV] at o; simp only [frz, ih o, Option.map_some])
    (fun i o => by cases o)
    (fun _ => rfl) (fun v l i1 i2 o => by
      simp only [okVs, Bool.and_eq_true] at o
      simp only [frzs, i1 o.1, i2 o.2, Option.bind_some, Option.map_some]) v
theorem frzs_list {f : Nat → Option Val} : ∀ {l : List Val}, okVs l = true → frzs f l = some l
  | [], _ => rfl
  | v :: l, o => by
    simp only [okVs, Bool.and_eq_true] at o
    simp only [frzs, frzs_self o.1, frzs_list o.2, Option.bind_some, Option.map_some]
theorem kept_app (h g : Hv) : kept h.length h (h ++ g) := ⟨by simp, fun i hi => .inl (List.getElem?_append_left hi)⟩
theorem tidy_app {r : Res Val} {h : Hv} {P : Val → Hv → Prop} (k : ok r fun v h' => (∃ g, h' = h ++ g) ∧ okV v = true ∧ P v h) : ok (tidy r h) P := by
  obtain ⟨v, h', rfl, ⟨g, rfl⟩, o, p⟩ := ok_eq k
  unfold tidy
  dsimp only
  rw [if_pos (kept_app h g), frzs_self o]
  simpa using p
theorem tidy_lst {r : Res Val} {h : Hv} {P : Val → Hv → Prop} (k : ok r fun v h' => ∃ g i l, h' = h ++ g ∧ v = .ref i ∧ h.length ≤ i ∧ h'[i]? = some (.lst l) ∧ okVs l = true ∧ P (.lst l) h) : ok (tidy r h) P := by
  obtain ⟨v, h', rfl, g, i, l, rfl, rfl, hi, hl, o, p⟩ := ok_eq k
  unfold tidy
  dsimp only
  rw [if_pos (kept_app h g)]
  have : frz (frzN (h ++ g) h.length (h ++ g).length) (.ref i) = some (.lst l) := by
    have hn : (h ++ g).length = ((h ++ g).length - 1) + 1 := by
      have := (List.getElem?_eq_some_iff.mp hl).1
      omega
    rw [hn]
    simp only [frz, frzN]
    rw [if_neg (by omega), hl]
    simp only [frzs_list o, Option.map_some]
  rw [this]
  simpa using p
end GH
set_option Elab.async false
set_option linter.all false
set_option maxRecDepth 100000
set_option maxHeartbeats 1000000
set_option autoImplicit false
/-! Values compared; the tape. -/
namespace GH
open PySem
variable [TheWorld]
theorem nrfl {α : Type} {a b : α} (h : a = b) : a = b := h
abbrev sv (s : List Nat) : Val := .str s
/-- a tuple of ints -/
abbrev pv (p : List Int) : Val := .tup (p.map .int)
theorem okVs_ints (p : List Int) : okVs (p.map .int) = true := by
  induction p with
  | nil => rfl
  | cons a p ih => simp only [List.map_cons, okVs, okV, ih, Bool.and_self]
theorem dpVs_ints (p : List Int) : dpVs (p.map .int) = 0 := by
  induction p with
  | nil => rfl
  | cons a p ih => simp only [List.map_cons, dpVs, dpV, ih]; rfl
@[simp] theorem okV_pv (p : List Int) : okV (pv p) = true := by simp only [okV, okVs_ints]
@[simp] theorem dpV_pv (p : List Int) : dpV (pv p) = 1 := by simp only [dpV, dpVs_ints]
theorem eqv_ints : ∀ p q : List Int, PyData.eqvAll (pds (p.map .int)) (pds (q.map .int)) = decide (p = q)
  | [], [] => rfl
  | [], _ :: _ => rfl
  | _ :: _, [] => rfl
  | a :: p, b :: q => by
    simp only [List.map_cons, pds, pd, PyData.eqvAll, PyData.eqv, eqv_ints p q]
    by_cases h1 : a = b <;> by_cases h2 : p = q <;> simp [h1, h2]
@[simp] theorem veq_pv (p q : List Int) : veq (pv p) (pv q) = decide (p = q) := by
  simp only [veq, pd, PyData.eqv, eqv_ints]
@[simp] theorem veq_str (a b : List Nat) : veq (.str a) (.str b) = decide (a = b) := by
  simp only [veq, pd, PyData.eqv]
  by_cases h : a = b
  · subst h; simp
  · have : sOf a ≠ sOf b := fun e => h (sOf_inj e)
    simp [h, this]
@[simp] theorem veq_int (a b : Int) : veq (.int a) (.int b) = decide (a = b) := by
  simp only [veq, pd, PyData.eqv]
  by_cases h : a = b <;> simp [h]
@[simp] theorem veq_bl (a b : Bool) : veq (.bl a) (.bl b) = decide (a = b) := by
  simp only [veq, pd, PyData.eqv]
  cases a <;> cases b <;> rfl
theorem okVs_pvs (s : List (List Int)) : okVs (s.map pv) = true := by
  induction s with
  | nil => rfl
  | cons a p ih => simp only [List.map_cons, okVs, okV_pv, ih, Bool.and_self]
theorem dpVs_pvs (s : List (List Int)) : dpVs (s.map pv) ≤ 1 := by
  induction s with
  | nil => exact Nat.zero_le _
  | cons a p ih => simp only [List.map_cons, dpVs, dpV_pv]; omega
/-- a tuple, a list of tuples of ints -/
abbrev tv (s : List (List Int)) : Val := .tup (s.map pv)
theorem okVs_append {a b : List Val} : okVs (a ++ b) = (okVs a && okVs b) := by
  induction a with
  | nil => simp [okVs]
  | cons x a ih => simp only [List.cons_append, okVs, ih, Bool.and_assoc]
@[simp] theorem okV_tv (s : List (List Int)) : okV (tv s) = true := by simp only [okV, okVs_pvs]
theorem inSeq_pv (p : List Int) (s : List (List Int)) : inSeq (pv p) (s.map pv) = decide (p ∈ s) := by
  unfold inSeq
  induction s with
  | nil => rfl
  | cons a s ih =>
    simp only [List.map_cons, List.any_cons, ih, veq_pv]
    by_cases h1 : a = p <;> by_cases h2 : p ∈ s <;> simp [h1, h2, eq_comm]
    intro e; exact absurd e.symm h1
theorem inOk_pv (p : List Int) (s : List (List Int)) : inOk (pv p) (s.map pv) = true := by
  have := dpVs_pvs s
  simp only [inOk, okV_pv, okVs_pvs, Bool.and_self, Bool.true_and, decide_eq_true_eq]
  omega
@[simp] theorem vIn_pv (p : List Int) (s : List (List Int)) (h : Hv) : vIn (pv p) (tv s) h = .ok (.bl (decide (p ∈ s))) h := by
  simp only [vIn, isIn, seqOf, thaw, inOk_pv, if_true, inSeq_pv, Res.bind_ok]
@[simp] theorem vNotIn_pv (p : List Int) (s : List (List Int)) (h : Hv) : vNotIn (pv p) (tv s) h = .ok (.bl (!decide (p ∈ s))) h := by
  simp only [vNotIn, isIn, seqOf, thaw, inOk_pv, if_true, inSeq_pv, Res.bind_ok]
@[simp] theorem vEq_pv (p q : List Int) (h : Hv) : vEq (pv p) (pv q) h = .ok (.bl (decide (p = q))) h := by
  simp [vEq, thaw, eqOk]
@[simp] theorem vEq_str (a b : List Nat) (h : Hv) : vEq (.str a) (.str b) h = .ok (.bl (decide (a = b))) h := nrfl rfl
@[simp] theorem vEq_int (a b : Int) (h : Hv) : vEq (.int a) (.int b) h = .ok (.bl (decide (a = b))) h := nrfl rfl
@[simp] theorem vEq_bl (a b : Bool) (h : Hv) : vEq (.bl a) (.bl b) h = .ok (.bl (decide (a = b))) h := by
  simp [vEq, thaw, eqOk, okV, dpV]
@[simp] theorem vAdd_int (a b : Int) (h : Hv) : vAdd (.int a) (.int b) h = .ok (.int (a + b)) h := nrfl rfl
@[simp] theorem vSub_int (a b : Int) (h : Hv) : vSub (.int a) (.int b) h = .ok (.int (a - b)) h := nrfl rfl
@[simp] theorem vLt_int (a b : Int) (h : Hv) : vLt (.int a) (.int b) h = .ok (.bl (decide (a < b))) h := nrfl rfl
@[simp] theorem vGt_int (a b : Int) (h : Hv) : vGt (.int a) (.int b) h = .ok (.bl (decide (b < a))) h := nrfl rfl
@[simp] theorem vLe_int (a b : Int) (h : Hv) : vLe (.int a) (.int b) h = .ok (.bl (decide (a ≤ b))) h := nrfl rfl
@[simp] theorem vGe_int (a b : Int) (h : Hv) : vGe (.int a) (.int b) h = .ok (.bl (decide (b ≤ a))) h := nrfl rfl
@[simp] theorem vInt_int (a : Int) (h : Hv) : vInt (.int a) h = .ok (.int a) h := nrfl rfl
@[simp] theorem vAbs_int (a : Int) (h : Hv) : vAbs (.int a) h = .ok (.int (if a < 0 then -a else a)) h := nrfl rfl
@[simp] theorem vLen_tup (l : List Val) (h : Hv) : vLen (.tup l) h = .ok (.int l.length) h := nrfl rfl
@[simp] theorem vLen_lst (l : List Val) (h : Hv) : vLen (.lst l) h = .ok (.int l.length) h := nrfl rfl
@[simp] theorem vIter_lst (l : List Val) (h : Hv) : vIter (.lst l) h = .ok (l, none) h := nrfl rfl
@[simp] theorem vIter_tup (l : List Val) (h : Hv) : vIter (.tup l) h = .ok (l, none) h := nrfl rfl
@[simp] theorem vIter_fz (l : List Val) (h : Hv) : vIter (.fz l) h = .ok (l, none) h := nrfl rfl
@[simp] theorem srcOk_none (l : List Val) (h : Hv) : srcOk (l, none) h := trivial
theorem vMod_ok {a b : Int} (h : Hv) (hb : 0 < b) : vMod (.int a) (.int b) h = .ok (.int (a % b)) h := by simp [vMod, hb]
theorem vDiv_ok {a b : Int} (h : Hv) (hb : 0 < b) (h2 : b < 1073741824) : vDiv (.int a) (.int b) h = .ok (.int (a / b)) h := by simp [vDiv, hb, h2]
theorem vIx_tup {l : List Val} {i : Int} {v : Val} {h : Hv} (e : nth l i = some v) : vIx (.tup l) (.int i) h = .ok v h := by simp [vIx, seqOf, e]
theorem vIx_lst {l : List Val} {i : Int} {v : Val} {h : Hv} (e : nth l i = some v) : vIx (.lst l) (.int i) h = .ok v h := by simp [vIx, seqOf, lstOf, e]
theorem vIx_dic {i : Nat} {d : List (Val × Val)} {s : List Nat} {v : Val} {h : Hv} (e : h[i]? = some (.dic d)) (g : dGet d (.str s) = some v) : vIx (.ref i) (.str s) h = .ok v h := by
  simp [vIx, seqOf, lstOf, dicOf, e, keyOf, g]
theorem nth_of {α : Type} {l : List α} {i : Int} (h0 : 0 ≤ i) (h1 : i < l.length) : ∃ v, nth l i = some v ∧ v ∈ l := by
  have hi : i.toNat < l.length := by omega
  exact ⟨l[i.toNat], by simp [nth, h0, hi], List.getElem_mem hi⟩

/-! ### the tape -/
structure Tape where
  cells : List Int
  at_ : Int
  left : Int
  seed : Int
  salt : Int
def kCells : List Nat := [99, 101, 108, 108, 115]
def Tape.dic (t : Tape) : List (Val × Val) := [(.str [99, 101, 108, 108, 115], .lst (t.cells.map .int)), (.str [97, 116], .int t.at_), (.str [108, 101, 102, 116], .int t.left), (.str [115, 101, 101, 100], .int t.seed), (.str [115, 97, 108, 116], .int t.salt)]
/-- a tape as an object -/
def TapeOb (o : Ob) : Prop := ∃ t : Tape, 0 ≤ t.at_ ∧ o = .dic t.dic
noncomputable def bTake : Stm := (sSeq (sIf (dAnd (dB (dBin vEq (dBin vIx (dVar 0) (dC (.str [108, 101, 102, 116]))) (dC (.int 0)))) (dB (dBin vLt (dBin vIx (dVar 0) (dC (.str [97, 116]))) (dLen (dBin vIx (dVar 0) (dC (.str [99, 101, 108, 108, 115]))))))) (sSeq (sAsg (dBin vIx (dBin vIx (dVar 0) (dC (.str [99, 101, 108, 108, 115]))) (dBin vIx (dVar 0) (dC (.str [97, 116])))) (gSub (dVar 0) (dC (.str [108, 101, 102, 116]))))
    (sSeq (sAsg (dBin vAdd (dBin vIx (dVar 0) (dC (.str [97, 116]))) (dC (.int 1))) (gSub (dVar 0) (dC (.str [97, 116]))))
    sNext)) sNext)
    (sSeq (sIf (dB (dBin vGt (dBin vIx (dVar 0) (dC (.str [108, 101, 102, 116]))) (dC (.int 0)))) (sSeq (sAsg (dBin vMod (dFn vInt (dBin vIx (dVar 0) (dC (.str [108, 101, 102, 116])))) (dVar 1)) (gName 3))
    (sSeq (sAsg (dBin vDiv (dBin vIx (dVar 0) (dC (.str [108, 101, 102, 116]))) (dVar 1)) (gSub (dVar 0) (dC (.str [108, 101, 102, 116]))))
    (sSeq (sRet (dVar 3))
    sNext))) sNext)
    (sSeq (sAsg (dBin vAdd (dBin vIx (dVar 0) (dC (.str [115, 97, 108, 116]))) (dC (.int 1))) (gSub (dVar 0) (dC (.str [115, 97, 108, 116]))))
    (sSeq (sAsg (dBin vMod (dFn vInt (dBin vAdd (dBin vMul (dBin vIx (dVar 0) (dC (.str [115, 101, 101, 100]))) (dC (.int 48271))) (dBin vMul (dBin vIx (dVar 0) (dC (.str [115, 97, 108, 116]))) (dC (.int 69621))))) (dC (.int 2147483647))) (gName 2))
    (sSeq (sAsg (dBin vMod (dFn vInt (dBin vAdd (dBin vAdd (dBin vMul (dVar 2) (dVar 2)) (dBin vMul (dBin vIx (dVar 0) (dC (.str [115, 97, 108, 116]))) (dC (.int 40692)))) (dC (.int 12345)))) (dC (.int 2147483399))) (gName 2))
    (sSeq (sRet (dBin vMod (dFn vInt (dVar 2)) (dVar 1)))
    sNext))))))
noncomputable def bTape : Stm := (sSeq (sAsg (dLc frozen [3] (iSeq (dVar 0)) (gName 3) dYes (dFn vAbs (dFn vInt (dVar 3)))) (gName 1))
    (sSeq (sAsg (dC (.int 7)) (gName 2))
    (sSeq (sFor (iSeq (dVar 1)) (gName 3) (sSeq (sAsg (dBin vMod (dFn vInt (dBin vAdd (dBin vMul (dVar 2) (dC (.int 31))) (dVar 3))) (dC (.int 2147483647))) (gName 2))
    sNext))
    (sSeq (sRet (dDisp (((dC (.str [99, 101, 108, 108, 115])), (dVar 1)) :: (((dC (.str [97, 116])), (dC (.int 0))) :: (((dC (.str [108, 101, 102, 116])), (dC (.int 0))) :: (((dC (.str [115, 101, 101, 100])), (dVar 2)) :: (((dC (.str [115, 97, 108, 116])), (dC (.int 0))) :: [])))))))
    sNext))))
section
variable (t : Tape) (g : Hv)
@[simp] theorem tp_cells : vIx (.ref 0) (.str [99, 101, 108, 108, 115]) (.dic t.dic :: g) = .ok (.lst (t.cells.map .int)) (.dic t.dic :: g) := nrfl rfl
@[simp] theorem tp_at : vIx (.ref 0) (.str [97, 116]) (.dic t.dic :: g) = .ok (.int t.at_) (.dic t.dic :: g) := nrfl rfl
@[simp] theorem tp_left : vIx (.ref 0) (.str [108, 101, 102, 116]) (.dic t.dic :: g) = .ok (.int t.left) (.dic t.dic :: g) := nrfl rfl
@[simp] theorem tp_seed : vIx (.ref 0) (.str [115, 101, 101, 100]) (.dic t.dic :: g) = .ok (.int t.seed) (.dic t.dic :: g) := nrfl rfl
@[simp] theorem tp_salt : vIx (.ref 0) (.str [115, 97, 108, 116]) (.dic t.dic :: g) = .ok (.int t.salt) (.dic t.dic :: g) := nrfl rfl
@[simp] theorem ts_at (i : Int) : vSet (.ref 0) (.str [97, 116]) (.int i) (.dic t.dic :: g) = some (.dic { t with at_ := i }.dic :: g) := nrfl rfl
@[simp] theorem ts_left (i : Int) : vSet (.ref 0) (.str [108, 101, 102, 116]) (.int i) (.dic t.dic :: g) = some (.dic { t with left := i }.dic :: g) := nrfl rfl
@[simp] theorem ts_salt (i : Int) : vSet (.ref 0) (.str [115, 97, 108, 116]) (.int i) (.dic t.dic :: g) = some (.dic { t with salt := i }.dic :: g) := nrfl rfl
end
theorem big_of {a : Int} (h1 : -18446744073709551616 < a) (h2 : a < 18446744073709551616) : big64 a = true := by
  unfold big64
  have e : (2 : Int) ^ 64 = 18446744073709551616 := by decide
  rw [e]
  simp [h1, h2]
theorem big_mod (x : Int) : big64 (x % 2147483647) = true := by
  have q1 := Int.emod_nonneg x (show (2147483647 : Int) ≠ 0 by omega)
  have q2 := Int.emod_lt_of_pos x (show (0 : Int) < 2147483647 by omega)
  exact big_of (by omega) (by omega)
theorem big_a : big64 48271 = true := big_of (by omega) (by omega)
theorem big_b : big64 69621 = true := big_of (by omega) (by omega)
theorem big_c : big64 40692 = true := big_of (by omega) (by omega)
theorem big_d : big64 31 = true := big_of (by omega) (by omega)
theorem vMul_ok {a b : Int} (h : Hv) (hb : big64 a = true ∨ big64 b = true) : vMul (.int a) (.int b) h = .ok (.int (a * b)) h := by
  have : (big64 a || big64 b) = true := by simpa using hb
  simp [vMul, this]
theorem p1 : (0 : Int) < 2147483647 := by omega
theorem p2 : (0 : Int) < 2147483399 := by omega
theorem take_key {m : Int} {g : Hv} {P : Val → Hv → Prop} (hm : 0 < m) (hm2 : m < 1073741824) (k : ∀ r o', 0 ≤ r → r < m → TapeOb o' → P (.int r) (o' :: g)) (t : Tape) (ht : 0 ≤ t.at_) : sok ((sSeq (sIf (dB (dBin vGt (dBin vIx (dVar 0) (dC (.str [108, 101, 102, 116]))) (dC (.int 0)))) (sSeq (sAsg (dBin vMod (dFn vInt (dBin vIx (dVar 0) (dC (.str [108, 101, 102, 116])))) (dVar 1)) (gName 3))
    (sSeq (sAsg (dBin vDiv (dBin vIx (dVar 0) (dC (.str [108, 101, 102, 116]))) (dVar 1)) (gSub (dVar 0) (dC (.str [108, 101, 102, 116]))))
    (sSeq (sRet (dVar 3))
    sNext))) sNext)
    (sSeq (sAsg (dBin vAdd (dBin vIx (dVar 0) (dC (.str [115, 97, 108, 116]))) (dC (.int 1))) (gSub (dVar 0) (dC (.str [115, 97, 108, 116]))))
    (sSeq (sAsg (dBin vMod (dFn vInt (dBin vAdd (dBin vMul (dBin vIx (dVar 0) (dC (.str [115, 101, 101, 100]))) (dC (.int 48271))) (dBin vMul (dBin vIx (dVar 0) (dC (.str [115, 97, 108, 116]))) (dC (.int 69621))))) (dC (.int 2147483647))) (gName 2))
    (sSeq (sAsg (dBin vMod (dFn vInt (dBin vAdd (dBin vAdd (dBin vMul (dVar 2) (dVar 2)) (dBin vMul (dBin vIx (dVar 0) (dC (.str [115, 97, 108, 116]))) (dC (.int 40692)))) (dC (.int 12345)))) (dC (.int 2147483399))) (gName 2))
    (sSeq (sRet (dBin vMod (dFn vInt (dVar 2)) (dVar 1)))
    sNext))))) [some (.ref 0), some (.int m), none, none] (.dic t.dic :: g)) { nx := fun _ h => P .non h, rt := P } := by
    by_cases hl : 0 < t.left
    · simp [dVar]
      simp [hl, dVar, vMod_ok _ hm, vDiv_ok _ hm hm2]
      exact k _ _ (Int.emod_nonneg _ (by omega)) (Int.emod_lt_of_pos _ hm) ⟨_, by exact ht, rfl⟩
    · refine sok_seq (fun l h => l = [some (.ref 0), some (.int m), none, none] ∧ h = .dic t.dic :: g) (by simp [hl, dVar]) ?_
      rintro l h ⟨rfl, rfl⟩
      refine sok_seq (fun l h => l = [some (.ref 0), some (.int m), none, none] ∧ ∃ t' : Tape, 0 ≤ t'.at_ ∧ h = .dic t'.dic :: g) (by simp [dVar]; exact ⟨_, by exact ht, rfl⟩) ?_
      rintro l h ⟨rfl, t, ht, rfl⟩
      refine sok_seq (fun l h => (∃ x, big64 x = true ∧ l = [some (.ref 0), some (.int m), some (.int x), none]) ∧ h = .dic t.dic :: g) ?_ ?_
      · simp [dVar, vMul_ok _ (.inr big_a), vMul_ok _ (.inr big_b), vMod_ok _ p1]
        exact big_mod _
      rintro l h ⟨⟨x, hx, rfl⟩, rfl⟩
      refine sok_seq (fun l h => (∃ x, l = [some (.ref 0), some (.int m), some (.int x), none]) ∧ h = .dic t.dic :: g) ?_ ?_
      · simp [dVar, vMul_ok _ (.inl hx), vMul_ok _ (.inr big_c), vMod_ok _ p2]
      rintro l h ⟨⟨x, rfl⟩, rfl⟩
      simp [dVar, vMod_ok _ hm]
      exact k _ _ (Int.emod_nonneg _ (by omega)) (Int.emod_lt_of_pos _ hm) ⟨_, by exact ht, rfl⟩
theorem take_sp {m : Int} {o : Ob} {g : Hv} {P : Val → Hv → Prop} (hm : 0 < m) (hm2 : m < 1073741824) (ho : TapeOb o)
    (k : ∀ r o', 0 ≤ r → r < m → TapeOb o' → P (.int r) (o' :: g)) : ok (runDef 4 bTake [.ref 0, .int m] (o :: g)) P := by
  obtain ⟨t, ht, rfl⟩ := ho
  rw [ok_run]
  refine sok_seq (fun l h => l = [some (.ref 0), some (.int m), none, none] ∧ ∃ t' : Tape, 0 ≤ t'.at_ ∧ h = .dic t'.dic :: g) ?_ (fun l h ⟨e1, t', h1, e2⟩ => by subst e1 e2; exact take_key hm hm2 k t' h1)
  simp [dVar]
  by_cases hc : t.left = 0
  · by_cases h2 : t.at_ < t.cells.length
    · obtain ⟨v, e1, e2⟩ := nth_of (l := t.cells.map Val.int) ht (by simpa using h2)
      obtain ⟨c, hc', rfl⟩ := List.mem_map.mp e2
      simp [hc, h2, dVar, vIx_lst e1]
      exact ⟨{ t with left := c, at_ := t.at_ + 1 }, by show 0 ≤ t.at_ + 1; omega, rfl⟩
    · simp [hc, h2, dVar]
      exact ⟨t, ht, rfl⟩
  · simp [hc, dVar]
    exact ⟨t, ht, rfl⟩
theorem tape_sp {ns : List Int} {h : Hv} {P : Val → Hv → Prop} (k : ∀ o, TapeOb o → P (.ref h.length) (h ++ [o])) : ok (runDef 4 bTape [.fz (ns.map .int)] h) P := by
  simp only [ok_run, bTape, e_seq, sok_then]
  simp only [List.map_cons, List.map_nil, List.length_cons, List.length_nil, List.cons_append, List.nil_append, List.replicate]
  simp [dVar]
  refine lc_pure (fun _ => true) (fun v => match v with | .int i => .int (if i < 0 then -i else i) | v => v) trivial ?_ ?_
  · intro x hx
    obtain ⟨i, hi, rfl⟩ := List.mem_map.mp hx
    simp [wipeL, dVar]
  · have e : ∀ ns : List Int, (List.filter (fun _ => true) (ns.map Val.int)).map (fun v => match v with | .int i => .int (if i < 0 then -i else i) | v => v) = (ns.map fun i => if i < 0 then -i else i).map Val.int := by
      intro ns
      induction ns with
      | nil => rfl
      | cons n ns ih => simp only [List.map_cons, List.filter_cons, if_true] at ih ⊢; rw [ih]
    rw [e]
    refine forL_inv (fun items l h1 => h1 = h ∧ (∃ x y, l = [some (.fz (ns.map .int)), some (.lst ((ns.map fun i => if i < 0 then -i else i).map Val.int)), some (.int x), y]) ∧ ∀ z ∈ items, ∃ i, z = Val.int i) ?_ ?_ _ _ _ ?_
    · rintro x r l h1 ⟨rfl, ⟨s, y, rfl⟩, hz⟩
      obtain ⟨i, rfl⟩ := hz x (List.mem_cons_self ..)
      refine ⟨trivial, ?_⟩
      simp [dVar, vMul_ok _ (.inr big_d), vMod_ok _ p1]
      exact fun z hz' => hz z (List.mem_cons_of_mem _ hz')
    · rintro l h1 ⟨rfl, ⟨s, y, rfl⟩, _⟩
      refine ⟨trivial, ?_⟩
      simp [dDisp, dPairs, dVar, keyOf]
      exact k _ ⟨⟨ns.map fun i => if i < 0 then -i else i, 0, 0, s, 0⟩, Int.le_refl _, by simp [dMk, dPut, kEq, Tape.dic]⟩
    · exact ⟨rfl, ⟨7, none, rfl⟩, fun z hz => by obtain ⟨i, _, rfl⟩ := List.mem_map.mp hz; exact ⟨i, rfl⟩⟩
end GH
set_option Elab.async false
set_option linter.all false
set_option maxRecDepth 100000
set_option maxHeartbeats 1000000
set_option autoImplicit false
/-! Chained comparison; texts compared; more. -/
namespace GH
open PySem PySem.Spec PyProof.Rows L2
variable [TheWorld]
section
variable {X : Cx} {W : WX}
def dChain (f f' : Val → Val → Hv → Res Val) (da db dc : Den) : Den := fun l h => (da l h).bind fun v h1 => (db l h1).bind fun u h2 => (f v u h2).bind fun z h3 => match z with
  | .bl true => (dc l h3).bind fun w h4 => f' u w h4
  | .bl false => .ok (.bl false) h3
  | _ => .fail
theorem After.bind {α β γ δ : Type} {K : PySem.W.Frag} {W : WX} {rel : Gh → Hp → α → β → Prop} {rel2 : Gh → Hp → γ → δ → Prop} {σ : L2.St} {g : Gh} {H : Hp} {r : Res α} {k : α → Hv → Res γ} {Q : δ → Hp → Prop} {R : β → Hp → Prop} (A : After K W rel2 σ g H Q (r.bind k))
    (hk : ∀ v h1 g1 H1 x, Ext g H g1 H1 → HR K g1 H1 h1 → rel g1 H1 v x → After K W rel2 σ g1 H1 Q (k v h1) → R x H1) : After K W rel σ g H R r := by
  cases r with
  | ok v h1 => exact fun g' H' x E R' r => hk v h1 g' H' x E R' r (After.ext E A)
  | exc e h1 => exact A
  | fail => exact A
theorem tChain_of {f f' : Val → Val → Hv → Res Val} {da db dc : Den} {r r' : R2}
    (hr : ∀ (W : WX) (g : Gh) (H : Hp) (h : Hv) (σ : L2.St) (v u : Val) (x y : V) (Q : VK), HR X.K g H h → VR X.K g H v x → VR X.K g H u y → After X.K W (vr X.K) σ g H Q (f v u h) → r x y H Q)
    (hr' : ∀ (W : WX) (g : Gh) (H : Hp) (h : Hv) (σ : L2.St) (v u : Val) (x y : V) (Q : VK), HR X.K g H h → VR X.K g H v x → VR X.K g H u y → After X.K W (vr X.K) σ g H Q (f' v u h) → r' x y H Q)
    (σ : L2.St) (H : Hp) (Q : VK) (z : tG X.K W (vr X.K) (dChain f f' da db dc) σ H Q) : tChain r r' (tG X.K W (vr X.K) da) (tG X.K W (vr X.K) db) (tG X.K W (vr X.K) dc) σ H Q := by
  obtain ⟨g, l, h, S, R, A⟩ := z
  refine tG_of S R A fun v h1 g1 H1 x E S1 R1 r1 A1 => ?_
  refine tG_of S1 R1 A1 fun u h2 g2 H2 y E2 S2 R2 r2 A2 => ?_
  refine hr W g2 H2 h2 σ v u x y _ R2 (r1.ext R1 E2) r2 (After.bind A2 fun z h3 g3 H3 zx E3 R3 r3 A3 => ?_)
  cases z with
  | bl b =>
    have r3 : VR X.K g3 H3 (.bl b) zx := r3
    simp only [VR] at r3
    subst r3
    refine ⟨b, rfl, ?_⟩
    cases b with
    | false =>
      rw [if_neg Bool.false_ne_true]
      exact A3 g3 H3 _ Ext.refl R3 (by simp only [VR])
    | true =>
      rw [if_pos rfl]
      have S3 := S2.ext R2 E3
      refine tG_of S3 R3 A3 fun w h4 g4 H4 wx E4 S4 R4 r4 A4 => ?_
      exact hr' W g4 H4 h4 σ u w y wx Q R4 ((VR.ext R2 E3 r2).ext R3 E4) r4 A4
  | _ => exact A3.elim
theorem ge_chain {op op' : CmpOp} {f f' : Val → Val → Hv → Res Val} {a b c : Expr} {da db dc : Den} {pos : Pos} (ho : OpG X (compareOp op) f) (ho' : OpG X (compareOp op') f') (ha : GE X W a da) (hb : GE X W b db) (hc : GE X W c dc)
    (hm : lastMarks [op, op'] [b, c] = false := by with_unfolding_all rfl) : GE X W (.Compare a [op, op'] [b, c] pos) (dChain f f' da db dc) := by
  obtain ⟨r, ho, hr⟩ := ho
  obtain ⟨r', ho', hr'⟩ := ho'
  exact PE.imp (pe_chain ho ho' ha hb hc hm) fun σ H Q z => tChain_of hr hr' σ H Q z
theorem gt_chain {op op' : CmpOp} {f f' : Val → Val → Hv → Res Val} {a b c : Expr} {da db dc : Den} {pos : Pos} (ho : OpG X (compareOp op) f) (ho' : OpG X (compareOp op') f') (ha : GE X W a da) (hb : GE X W b db) (hc : GE X W c dc)
    (hm : lastMarks [op, op'] [b, c] = false := by with_unfolding_all rfl) : GT X W (.Compare a [op, op'] [b, c] pos) (dB (dChain f f' da db dc)) := by
  obtain ⟨r, ho, hr⟩ := ho
  obtain ⟨r', ho', hr'⟩ := ho'
  exact PT.imp (pt_chain ho ho' ha hb hc hm) fun σ H Q z => tChain_of (W := W) hr hr' σ H _ (tB_of z)
/-! texts -/
def vCmpS (p : Int → Int → Bool) (q : List Nat → List Nat → Bool) (v u : Val) (h : Hv) : Res Val := match v, u with
  | .int i, .int j => .ok (.bl (p i j)) h
  | .str a, .str b => .ok (.bl (q a b)) h
  | _, _ => .fail
theorem og_cmpS {op : CmpOp} {p : Int → Int → Bool} {q : List Nat → List Nat → Bool} (ho : OpR X (compareOp op) (rI0 fun i j => .bl (p i j))) {F : Str → Str → Bool} (hs : OpR X (compareOp op) (fun x y H Q => ∃ i j, x = .str i ∧ y = .str j ∧ Q (.bl (F i j)) H)) (hF : ∀ a b, F (sOf a) (sOf b) = q a b) :
    OpG X (compareOp op) (vCmpS p q) := by
  refine ⟨_, ho.or hs, fun W g H h σ v u x y Q R rv ru A => ?_⟩
  unfold vCmpS at A
  split at A
  · simp only [VR] at rv ru
    subst rv ru
    exact .inl ⟨_, _, rfl, rfl, A g H _ Ext.refl R (by simp only [VR])⟩
  · simp only [VR] at rv ru
    subst rv ru
    exact .inr ⟨_, _, rfl, rfl, A g H _ Ext.refl R (by simp only [VR]; rw [hF])⟩
  · exact A.elim
abbrev vLtS := vCmpS (fun i j => decide (i < j)) fun a b => decide (a < b)
abbrev vLeS := vCmpS (fun i j => decide (i ≤ j)) fun a b => !decide (b < a)
abbrev vGtS := vCmpS (fun i j => decide (j < i)) fun a b => decide (b < a)
abbrev vGeS := vCmpS (fun i j => decide (j ≤ i)) fun a b => !decide (a < b)
theorem og_ltS : OpG X (compareOp .Lt) vLtS := og_cmpS op_lt op_lt_str fun a b => decide_eq_decide.mpr Iff.rfl
theorem og_leS : OpG X (compareOp .LtE) vLeS := og_cmpS op_le op_le_str fun a b => congrArg (!·) (decide_eq_decide.mpr Iff.rfl)
theorem og_gtS : OpG X (compareOp .Gt) vGtS := og_cmpS op_gt op_gt_str fun a b => decide_eq_decide.mpr Iff.rfl
theorem og_geS : OpG X (compareOp .GtE) vGeS := og_cmpS op_ge op_ge_str fun a b => congrArg (!·) (decide_eq_decide.mpr Iff.rfl)
/-- an int of the top -/
theorem ge_topi {x : Str} {i : Int} {pos : Pos} (hm : ∃ t, X.mg x = some (.int i t)) (hg : Gl X x := by rfl) (hd : (x == ("__debug__" : Str)) = false := by decide +kernel) : GE X W (.Name x pos) (dC (.int i)) := by
  obtain ⟨t, hm⟩ := hm
  exact ge_top (y := .int i) hm ⟨t, rfl⟩ (fun g H => by simp only [VR]) hg hd
/-- a text of the top -/
theorem ge_tops {x z : Str} (s : List Nat) {pos : Pos} (hm : ∃ t, X.mg x = some (.str z t)) (e : z = sOf s := by decide +kernel) (hg : Gl X x := by rfl) (hd : (x == ("__debug__" : Str)) = false := by decide +kernel) : GE X W (.Name x pos) (dC (.str s)) := by
  obtain ⟨t, hm⟩ := hm
  subst e
  exact ge_top (y := .str (sOf s)) hm ⟨t, rfl⟩ (fun g H => by simp only [VR]) hg hd
end
end GH
set_option Elab.async false
set_option linter.all false
set_option maxRecDepth 100000
set_option maxHeartbeats 1000000
set_option autoImplicit false
/-! Dict comprehensions. -/
namespace GH
open PySem PySem.Spec PyProof.Rows L2
variable [TheWorld]
open Classical in
noncomputable def dcL (t : Tg) (c : DenG Bool) (ek e : Den) (s : Src) : List Val → List (Val × Val) → Loc → Hv → Res (List (Val × Val))
  | [], acc, _, h => if srcOk s h then .ok acc h else .fail
  | x :: r, acc, l, h => if srcOk s h then (match t x l h with
    | .ok l1 h1 => (match c l1 h1 with
      | .ok b h2 => if b = true then (match ek l1 h2 with
        | .ok k h3 => (match e l1 h3 with
          | .ok v h4 => (match keyOf k with
            | some _ => dcL t c ek e s r (dPut acc k v) l h4
            | none => .fail)
          | _ => .fail)
        | _ => .fail) else dcL t c ek e s r acc l h2
      | _ => .fail)
    | _ => .fail) else .fail
def finD (ys : List (Val × Val)) (h : Hv) : Res Val := .ok (.ref h.length) (h ++ [.dic ys])
noncomputable def dDc (vs : List Nat) (di : DenG Src) (t : Tg) (c : DenG Bool) (ek e : Den) : Den := fun l h => (di l h).bind fun s h1 => (dcL t c ek e s s.1 [] (wipeL l vs) h1).bind finD
section
variable {K : PySem.W.Frag}
theorem upd_self' {H : Hp} {D : Addr} {o : HO} (e : H D = some o) : upd H D o = H := by
  funext b
  by_cases hb : b = D
  · subst hb; rw [upd_same, e]
  · rw [upd_ne hb]
theorem finD_ok {W : WX} {σ : L2.St} {g1 g2 : Gh} {H1 H : Hp} {h h1 : Hv} {Q : VK} {D : Addr} {ys : List (Val × Val)} {xs : List (Key × V)} (nD : H1 D = none) (R1 : HR K g1 H1 h1) (E : Ext ⟨g1.m, D :: g1.r⟩ (upd H1 D (.dK [])) g2 (upd H D (.dK []))) (R2 : HR K g2 H h) (eD : H D = some (.dK xs)) (r : DR K g2 H ys xs)
    (A : After K W (vr K) σ g1 H1 Q (.ok (.ref h.length) (h ++ [.dic ys]))) : Q (.ref D) H := by
  have hD : D ∈ g2.r := by rw [E.r]; exact List.mem_cons_self ..
  have R3 := R2.reset (zs := .dK []) hD eD trivial trivial
  have q := promote (o1 := .dK xs) (ob := .dic ys) R1 nD E R3 trivial (fun hm ho => by
    refine ⟨xs, upd_same, r.1, ?_⟩
    have := r.2.own hm ho
    rw [upd_upd, upd_self' eD]
    exact this) A
  rw [upd_upd, upd_self' eD] at q
  exact q
theorem dc_red {W : WX} {vs : List Nat} {di : DenG Src} {t : Tg} {c : DenG Bool} {ek e : Den} {σ : L2.St} {H : Hp} {Q : VK} (z : tG K W (vr K) (dDc vs di t c ek e) σ H Q) :
    tDc (tI K W di) (tTc K vs t) (tG K W0 br c) (tG K W0 (vr K) ek) (tG K W0 (vr K) e) vs σ H Q := by
  obtain ⟨g, l, h, S, R, A⟩ := z
  refine ⟨g, l, h, S, R, ?_⟩
  unfold dDc at A
  unfold AfterI
  cases ed : di l h with
  | exc x h1 => rw [ed] at A; exact A
  | fail => rw [ed] at A; exact A
  | ok s h1 =>
    rw [ed] at A
    simp only [Res.bind_ok] at A
    have ok1 : srcOk s h1 := by
      cases hs1 : s.1 with
      | nil =>
        rw [hs1] at A
        simp only [dcL] at A
        split at A
        · assumption
        · exact A.elim
      | cons x r =>
        rw [hs1] at A
        simp only [dcL] at A
        split at A
        · assumption
        · exact A.elim
    refine ⟨ok1, fun g1 H1 J E1 R1 hz sv D nD => ?_⟩
    have A := After.ext E1 A
    have al : ∀ b ∈ g1.r, ∃ o, H1 b = some o := fun b hb => R1.own_there (.inr hb)
    have S1 := S.ext R E1
    -- the new list is put aside
    have ES : ExtS g1 H1 ⟨g1.m, D :: g1.r⟩ (upd H1 D (.dK [])) := ⟨⟨[], by simp, by simp⟩, ⟨[D], rfl, fun b hb => by rw [List.mem_singleton.mp hb]; exact fre_none nD⟩, fun b o e _ hb => by rw [upd_ne (ne_of_none e nD)]; exact e⟩
    have RD : HR K ⟨g1.m, D :: g1.r⟩ (upd H1 D (.dK [])) h1 := by
      refine ⟨R1.len, R1.nd, fun a ha z => ?_, fun a ha => ?_, fun i o a e1 e2 => ?_⟩
      · rcases List.mem_cons.mp z with z | z
        · subst z; exact R1.fresh nD (.inl ha)
        · exact R1.dis a ha z
      · rcases List.mem_cons.mp ha with z | z
        · subst z; exact ⟨_, upd_same, trivial⟩
        · obtain ⟨ob, e, mo⟩ := R1.al a z
          exact ⟨ob, by rw [upd_ne (ne_of_none e nD)]; exact e, mo⟩
      · have q := R1.obj i o a e1 e2
        cases o with
        | lst l => obtain ⟨xs, e, r⟩ := q; exact ⟨xs, by rw [upd_ne (ne_of_none e nD)]; exact e, r.extS R1 ES⟩
        | dic l => obtain ⟨xs, e, r⟩ := q; exact ⟨xs, by rw [upd_ne (ne_of_none e nD)]; exact e, r.1, r.2.extS R1 ES⟩
        | ins c f => obtain ⟨dx, gs, e, r⟩ := q; exact ⟨dx, gs, by rw [upd_ne (ne_of_none e nD)]; exact e, r.1, r.2.extS R1 ES⟩
        | dn l => obtain ⟨xs, ys, e, p, r1, r2⟩ := q; exact ⟨xs, ys, by rw [upd_ne (ne_of_none e nD)]; exact e, p, r1.extS R1 ES, r2.extS R1 ES⟩
        | tbl t => exact ⟨q.1, q.2.stay (fun ps e => by rw [upd_ne (ne_of_none e nD)]; exact e) (fun c o e nt hn => ⟨by rw [upd_ne (ne_of_none e nD)]; exact e, ES.nown hn e nt⟩)⟩
    let Wd : Nat → Hp → Prop := fun i H => ∃ g2 h2 ys xs, H D = some (.dK xs) ∧ Ext ⟨g1.m, D :: g1.r⟩ (upd H1 D (.dK [])) g2 (upd H D (.dK [])) ∧ HR K g2 H h2 ∧ DR K g2 H ys xs ∧ xs.length ≤ i ∧ i ≤ s.1.length ∧
      After K W (vr K) σ g1 H1 Q ((dcL t c ek e s (s.1.drop i) ys (wipeL l vs) h2).bind finD)
    refine ⟨fun i m H => m = s.1.length - i ∧ Wd i H, ⟨s.1.length, by simp, ⟨g1.m, D :: g1.r⟩, h1, [], [], upd_same, by rw [upd_upd]; exact Ext.refl, RD, DR.nil, by simp, Nat.zero_le _, by simpa using A⟩, ?_⟩
    rintro i m H ⟨rfl, g2, h2, ys, xs, eD, E, R2, r, hl, hil, A⟩
    have hDr : D ∈ g2.r := by rw [E.r]; exact List.mem_cons_self ..
    have hDm : D ∉ g2.m := fun z => R2.dis D z hDr
    obtain ⟨tm, em, nm⟩ := E.m
    have em : g2.m = g1.m ++ tm := em
    have nm : ∀ b ∈ tm, Fre H1 b := fun b hb => by
      have q := nm b hb
      have hne : b ≠ D := by
        rintro rfl
        obtain ⟨ps, z⟩ := q _ upd_same
        cases z
      intro o z
      exact q o (by rw [upd_ne hne]; exact z)
    have keep : ∀ b o, H1 b = some o → (∀ ps, o ≠ .tbl ps) → b ∉ g1.m → H b = some o := fun b o e nt hb => by
      have hne := ne_of_none e nD
      have q := E.keepN b o (by rw [upd_ne hne]; exact e) nt hb
      rw [upd_ne hne] at q
      exact q
    have E2S : ExtS g1 H1 g2 H := ⟨⟨tm, em, nm⟩, ⟨[D], E.r, fun b hb => by rw [List.mem_singleton.mp hb]; exact fre_none nD⟩, fun b o e nt hb => keep b o e nt fun z => hb (.inl z)⟩
    have E2 : Ext g1 H1 ⟨g2.m, g1.r⟩ H := ⟨⟨tm, em, nm⟩, rfl, keep, fun b o e nt => by
      have hne := ne_of_none e nD
      obtain ⟨o', q, nt'⟩ := E.there b o (by rw [upd_ne hne]; exact e) nt
      rw [upd_ne hne] at q
      exact ⟨o', q, nt'⟩⟩
    have S2 : SR K g2 H (wipeL l vs) (wipe σ vs) := (S1.extS R1 E2S).wipe vs
    cases hd : s.1.drop i with
    | nil =>
      have hle : s.1.length ≤ i := List.drop_eq_nil_iff.mp hd
      rw [hd] at A
      simp only [dcL] at A
      split at A
      · rename_i ok
        exact .inl ⟨(sv g2 H h2 E2S R2 ok i).2 (Nat.le_antisymm hil hle), finD_ok nD R1 E R2 eD r A⟩
      · exact A.elim
    | cons v rest =>
      have hlt : i < s.1.length := by
        by_cases q : i < s.1.length
        · exact q
        · rw [List.drop_eq_nil_iff.mpr (by omega)] at hd; cases hd
      have hv : s.1[i]? = some v := by
        have q := congrArg List.head? hd
        rw [List.head?_drop] at q
        simpa using q
      have hr : s.1.drop (i + 1) = rest := by
        have q := congrArg List.tail hd
        rw [List.tail_drop] at q
        simpa using q
      rw [hd] at A
      simp only [dcL] at A
      split at A
      · rename_i ok
        obtain ⟨go, yl⟩ := (sv g2 H h2 E2S R2 ok i).1 v hv
        refine .inr ⟨go, Wd (i + 1), fun H' q => ⟨s.1.length - (i + 1), by omega, rfl, q⟩, fun x H' y => ?_⟩
        obtain ⟨E3, R3, rx⟩ := yl x H' y
        refine ⟨g2, wipeL l vs, h2, v, S2.ext R2 E3, R3, rx, ?_⟩
        cases et : t v (wipeL l vs) h2 with
        | exc x l1 h1 => rw [et] at A; exact A
        | fail => rw [et] at A; exact A
        | ok l3 h3 =>
          rw [et] at A
          simp only at A
          intro g4 H4 σ4 E4 R4 S4 w4
          refine ⟨w4.trans (wipe_wipe fun _ hu => hu), g4, l3, h3, S4, R4, ?_⟩
          cases ec : c l3 h3 with
          | exc x h1 => rw [ec] at A; exact A.elim
          | fail => rw [ec] at A; exact A.elim
          | ok b h5 =>
            rw [ec] at A
            simp only at A
            intro g5 H5 b' E5 R5 eb
            obtain rfl : b = b' := eb
            have E25 := (E3.trans E4).trans E5
            have keepD : ∀ {g6 : Gh} {H6 : Hp}, Ext g2 H g6 H6 → H6 D = some (.dK xs) := fun E6 => E6.keep D _ eD hDm
            cases b with
            | false =>
              rw [if_neg Bool.false_ne_true] at A ⊢
              exact ⟨g5, h5, ys, xs, keepD E25, E.trans (E25.reset hDm eD), R5, ⟨r.1, r.2.ext R2 E25⟩, by omega, hlt, by rw [hr]; exact A⟩
            | true =>
              rw [if_pos rfl] at A ⊢
              refine ⟨g5, l3, h5, S4.ext R4 E5, R5, ?_⟩
              cases ek0 : ek l3 h5 with
              | exc x h1 => rw [ek0] at A; exact A.elim
              | fail => rw [ek0] at A; exact A.elim
              | ok ky h5k =>
                rw [ek0] at A
                simp only at A
                intro g5k H5k kx E5k R5k rk
                refine ⟨g5k, l3, h5k, (S4.ext R4 E5).ext R5 E5k, R5k, ?_⟩
                cases ee : e l3 h5k with
                | exc x h1 => rw [ee] at A; exact A.elim
                | fail => rw [ee] at A; exact A.elim
                | ok y h6 =>
                  rw [ee] at A
                  simp only at A
                  intro g6 H6 xv E6 R6 rv
                  split at A
                  · rename_i kk hkk
                    have E26 := (E25.trans E5k).trans E6
                    have hD6 : D ∈ g6.r := by rw [E26.r]; exact hDr
                    have k6 := keepD E26
                    have rk6 := VR.ext R5k E6 rk
                    have dr : DR K g6 H6 (dPut ys ky y) (putK xs kk xv) := DR.put ⟨r.1, r.2.ext R2 E26⟩ hkk rv
                    have hle := length_putK xs kk xv
                    refine ⟨xs, kk, key_V rk hkk, k6, by omega, g6, h6, dPut ys ky y, putK xs kk xv, upd_same, ?_, R6.reset hD6 k6 trivial trivial, ⟨dr.1, dr.2.reset hD6 k6 trivial⟩, by omega, hlt, by rw [hr]; exact A⟩
                    rw [upd_upd]
                    exact E.trans (E26.reset hDm eD)
                  · exact A.elim
      · exact A.elim
end
section
variable {X : Cx} {W : WX}
theorem ge_dc {kx vx tg iter : Expr} {ifs : List Expr} {scope : Scope} (own : List (Str × Nat)) {pos : Pos} {di : DenG Src} {t : Tg} {c : DenG Bool} {ek e : Den} (hc : X.calm = true) (hN : X.N.Nodup) (hi : GI X W tg iter di)
    (hg : ∀ (s : Shared) (H : Hp) (C : Addr) (cl : List (Str × Addr)) (fp : List Addr), GC (X.blk s H scope (compEnvC scope cl C X.env) fp) (own.map (·.2)) tg t) (ht : ∀ (s : Shared) (H : Hp) (C : Addr) (cl : List (Str × Addr)) (fp : List Addr), GTs (X.blk s H scope (compEnvC scope cl C X.env) fp) W0 ifs c)
    (hk : ∀ (s : Shared) (H : Hp) (C : Addr) (cl : List (Str × Addr)) (fp : List Addr), GE (X.blk s H scope (compEnvC scope cl C X.env) fp) W0 kx ek)
    (he : ∀ (s : Shared) (H : Hp) (C : Addr) (cl : List (Str × Addr)) (fp : List Addr), GE (X.blk s H scope (compEnvC scope cl C X.env) fp) W0 vx e) (ok : blkC X.N X.env.scope scope own = true := by first | rfl | decide +kernel) (hs : ∀ x, foldedSetIterable iter X.env x = pure x := by intro _; rfl) :
    GE X W (.DictComp kx vx [⟨tg, iter, ifs, 0⟩] scope pos) (dDc (own.map (·.2)) di t c ek e) :=
  PE.imp (pe_dc (g := tTc X.K (own.map fun p : Str × Nat => p.2) t) (tt := tG X.K W0 br c) (tk := tG X.K W0 (vr X.K) ek) (tv := tG X.K W0 (vr X.K) e) hc hN hi (blkOk_by ok) hg ht hk he hs) fun σ H Q z => dc_red z
end
end GH
set_option Elab.async false
set_option linter.all false
set_option maxRecDepth 100000
set_option maxHeartbeats 1000000
set_option autoImplicit false
/-! max, min, join. -/
namespace GH
open PySem PySem.Spec PyProof.Rows L2
variable [TheWorld]
section
variable {X : Cx} {W : WX}
def vMax (v : Val) (h : Hv) : Res Val := match lstOf h v with
  | some l => match intsOf l with
    | some ns => match ns.max? with
      | some m => .ok (.int m) h
      | none => .fail
    | none => .fail
  | none => .fail
def vMin (v : Val) (h : Hv) : Res Val := match lstOf h v with
  | some l => match intsOf l with
    | some ns => match ns.min? with
      | some m => .ok (.int m) h
      | none => .fail
    | none => .fail
  | none => .fail
theorem c1_max (hc : X.calm = true) : C1 X (.builtin "max") vMax := ⟨_, cr_max hc, fun W g H h σ v x Q R r A => by
  unfold vMax at A
  split at A
  · rename_i l hl
    split at A
    · rename_i ns hn
      split at A
      · rename_i m hm
        obtain ⟨a, xs, rfl, s, rs⟩ := lstOf_ok R r hl
        rw [intsOf_ok hn rs] at s
        refine ⟨a, ns, rfl, SqL.of s, ?_, fun m' h1 h2 => ?_⟩
        · cases ns with
          | nil => cases hm
          | cons => simp
        · have := List.max?_eq_some_iff.mpr ⟨h1, h2⟩
          rw [hm] at this
          cases this
          exact A g H _ Ext.refl R (by simp only [VR])
      · exact A.elim
    · exact A.elim
  · exact A.elim⟩
theorem c1_min (hc : X.calm = true) : C1 X (.builtin "min") vMin := ⟨_, cr_min hc, fun W g H h σ v x Q R r A => by
  unfold vMin at A
  split at A
  · rename_i l hl
    split at A
    · rename_i ns hn
      split at A
      · rename_i m hm
        obtain ⟨a, xs, rfl, s, rs⟩ := lstOf_ok R r hl
        rw [intsOf_ok hn rs] at s
        refine ⟨a, ns, rfl, SqL.of s, ?_, fun m' h1 h2 => ?_⟩
        · cases ns with
          | nil => cases hm
          | cons => simp
        · have := List.min?_eq_some_iff.mpr ⟨h1, h2⟩
          rw [hm] at this
          cases this
          exact A g H _ Ext.refl R (by simp only [VR])
      · exact A.elim
    · exact A.elim
  · exact A.elim⟩
/-! max(a, b), min(a, b) -/
def C2 (X : Cx) (f : Value) (d : Val → Val → Hv → Res Val) : Prop := ∃ r, CallR X f r ∧ ∀ (W : WX) (g : Gh) (H : Hp) (h : Hv) (σ : L2.St) (v u : Val) (x y : V) (Q : VK), HR X.K g H h → VR X.K g H v x → VR X.K g H u y → After X.K W (vr X.K) σ g H Q (d v u h) → r [x, y] H Q
theorem ge_b2 {id : String} {f : Val → Val → Hv → Res Val} {a b : Expr} {da db : Den} {x : Str} {p pos : Pos} (hf : C2 X (.builtin id) f) (ha : GE X W a da) (hb : GE X W b db) (hm : X.mg x = none) (hg : Gl X x := by rfl) (hv : bootBuiltins x = some (.builtin id) := by decide +kernel) (hn : x ≠ "__name__" := by decide +kernel) (hdb : (x == ("__debug__" : Str)) = false := by decide +kernel)
    (hs1 : starEach [a, b] X.env = (false, eval a X.env) :: starEach [b] X.env := by rfl) (hst : starEach [b] X.env = (false, eval b X.env) :: starEach [] X.env := by rfl) (hpl : (backTo pos (starEach [b] X.env)).any (·.1) = false := by rfl) : GE X W (.Call (.Name x p) [a, b] [] pos) (dBin f da db) := by
  obtain ⟨r, hc, hr⟩ := hf
  refine PE.imp (pe_callB hc hg hm hv (pa_cons ha (pa_cons hb pa_nil hst) hs1) hn hdb hs1 hpl) fun σ H Q ⟨g, l, h, S, R, A⟩ => ?_
  refine tG_of S R A fun v h1 g1 H1 x E S1 R1 r1 A1 => ?_
  refine tG_of S1 R1 A1 fun u h2 g2 H2 y E2 S2 R2 r2 A2 => ?_
  exact hr W g2 H2 h2 σ v u x y Q R2 (r1.ext R1 E2) r2 A2
def vMax2 (v u : Val) (h : Hv) : Res Val := match v, u with
  | .int i, .int j => .ok (.int (if j > i then j else i)) h
  | _, _ => .fail
def vMin2 (v u : Val) (h : Hv) : Res Val := match v, u with
  | .int i, .int j => .ok (.int (if j < i then j else i)) h
  | _, _ => .fail
theorem c2_max (hc : X.calm = true) : C2 X (.builtin "max") vMax2 := ⟨_, call_max2 hc, fun W g H h σ v u x y Q R rv ru A => by
  unfold vMax2 at A
  split at A
  · simp only [VR] at rv ru
    subst rv ru
    exact ⟨_, _, rfl, A g H _ Ext.refl R (by simp only [VR])⟩
  · exact A.elim⟩
theorem c2_min (hc : X.calm = true) : C2 X (.builtin "min") vMin2 := ⟨_, call_min2 hc, fun W g H h σ v u x y Q R rv ru A => by
  unfold vMin2 at A
  split at A
  · simp only [VR] at rv ru
    subst rv ru
    exact ⟨_, _, rfl, A g H _ Ext.refl R (by simp only [VR])⟩
  · exact A.elim⟩
/-! a text joins texts -/
def strsOf : List Val → Option (List (List Nat))
  | [] => some []
  | .str s :: l => (strsOf l).map (s :: ·)
  | _ :: _ => none
theorem strsOf_ok {K : PySem.W.Frag} {g : Gh} {H : Hp} : ∀ {l : List Val} {ns : List (List Nat)} {xs : List V}, strsOf l = some ns → VRs K g H l xs → xs = (ns.map sOf).map V.str
  | [], ns, xs, e, r => by
    simp only [strsOf, Option.some.injEq] at e
    subst e
    simpa [VRs] using r
  | v :: l, ns, xs, e, r => by
    simp only [VRs] at r
    obtain ⟨x, xs', rfl, r1, r2⟩ := r
    cases v with
    | str s =>
      simp only [strsOf, Option.map_eq_some_iff] at e
      obtain ⟨ns', e, rfl⟩ := e
      simp only [VR] at r1
      rw [r1, strsOf_ok e r2]; rfl
    | _ => simp [strsOf] at e
def isStr (h : Hv) : Val → Bool
  | .str _ => true
  | _ => false
def vJoin (x v : Val) (h : Hv) : Res Val := match x with
  | .str a => match seqOf h v with
    | some l => match strsOf l with
      | some ys => if (ys.map List.length).sum + ys.length * a.length ≤ 16777216 then .ok (.str (TL.joinL a ys)) h else .fail
      | none => .fail
    | none => .fail
  | _ => .fail
theorem str_ty {K : PySem.W.Frag} {g : Gh} {H : Hp} {h : Hv} {v : Val} {x : V} (r : VR K g H v x) (e : isStr h v = true) : tyV K "str" x H := by
  cases v with
  | str s =>
    simp only [VR] at r
    subst r
    exact rfl
  | _ => exact absurd e Bool.false_ne_true
theorem m1_join : M1R X "str" "str.join" isStr vJoin := ⟨fun g H h v x R r e => str_ty r e, _, mt_join, fun W g H h σ v u x y Q R rv ru A => by
  unfold vJoin at A
  split at A
  · rename_i a
    split at A
    · rename_i l hl
      split at A
      · rename_i ys hy
        split at A
        · rename_i hz
          simp only [VR] at rv
          subst rv
          obtain ⟨p, xs, rfl, s, rs⟩ := seqOf_ok R ru hl
          have e := strsOf_ok hy rs
          refine ⟨_, p, ys.map sOf, rfl, rfl, by rw [e] at s; exact s, ?_, ?_⟩
          · have : ((ys.map sOf).map (·.length)) = ys.map List.length := by simp [sOf_len]
            rw [this, List.length_map, sOf_len]
            exact hz
          · rw [show Txt.join (sOf a) (ys.map sOf) = sOf (TL.joinL a ys) from SX.join_S a ys]
            exact A g H _ Ext.refl R (by simp only [VR])
        · exact A.elim
      · exact A.elim
    · exact A.elim
  · exact A.elim⟩
theorem ge_join {o e : Expr} {dx de : Den} {apos cpos : Pos} (ho : GE X W o dx) (he : GE X W e de) (hbase : attributeBase o "join" X.env (eval o X.env) = eval o X.env := by rfl)
    (hfew : ((backTo cpos (starEach [e] X.env)).all (fun x => !x.1) && (backToKw cpos (keywordEach [] X.env)).all (fun x => x.1.isSome)
      && decide (([e] : List Expr).length + ([] : List Keyword).length + (if ([] : List Keyword).isEmpty then 0 else 1) < 30)) = true := by rfl)
    (hline : (apos.endLine == cpos.line) = true := by rfl) (hs : starEach [e] X.env = (false, eval e X.env) :: starEach [] X.env := by rfl) (hplain : (backTo cpos (starEach [] X.env)).any (·.1) = false := by rfl) :
    GE X W (.Call (.Attribute o "join" apos) [e] [] cpos) (dMeth1 isStr vJoin dx de) :=
  ge_meth1 m1_join PySem.F.plainAttrs_str PySem.F.slot_str_join PySem.F.type_str_join ho he hbase hfew hline hs hplain
end
end GH
set_option Elab.async false
set_option linter.all false
set_option maxRecDepth 100000
set_option maxHeartbeats 1000000
set_option autoImplicit false
/-! Comprehensions of two clauses. -/
namespace GH
open PySem PySem.Spec PyProof.Rows L2
variable [TheWorld]
open Classical in
noncomputable def lcB (t : Tg) (c : DenG Bool) (e : Den) (s : Src) : List Val → List Val → Loc → Hv → Res (List Val)
  | [], acc, _, h => if srcOk s h then .ok acc h else .fail
  | x :: r, acc, l, h => if srcOk s h then (match t x l h with
    | .ok l1 h1 => (match c l1 h1 with
      | .ok b h2 => if b = true then (match e l1 h2 with
        | .ok v h3 => if acc.length < lineN then lcB t c e s r (acc ++ [v]) l h3 else .fail
        | _ => .fail) else lcB t c e s r acc l h2
      | _ => .fail)
    | _ => .fail) else .fail
open Classical in
noncomputable def lc2L (t : Tg) (c : DenG Bool) (di1 : DenG Src) (t1 : Tg) (c1 : DenG Bool) (e : Den) (vs1 : List Nat) (s : Src) : List Val → List Val → Loc → Hv → Res (List Val)
  | [], acc, _, h => if srcOk s h then .ok acc h else .fail
  | x :: r, acc, l, h => if srcOk s h then (match t x l h with
    | .ok l1 h1 => (match c l1 h1 with
      | .ok b h2 => if b = true then (match di1 l1 h2 with
        | .ok s1 h3 => (lcB t1 c1 e s1 s1.1 acc (wipeL l1 vs1) h3).bind fun acc' h4 => lc2L t c di1 t1 c1 e vs1 s r acc' l h4
        | _ => .fail) else lc2L t c di1 t1 c1 e vs1 s r acc l h2
      | _ => .fail)
    | _ => .fail) else .fail
noncomputable def dLc2 (fin : List Val → Hv → Res Val) (vs vs1 : List Nat) (di : DenG Src) (t : Tg) (c : DenG Bool) (di1 : DenG Src) (t1 : Tg) (c1 : DenG Bool) (e : Den) : Den := fun l h => (di l h).bind fun s h1 => (lc2L t c di1 t1 c1 e vs1 s s.1 [] (wipeL l vs) h1).bind fin
section
variable {K : PySem.W.Frag}
/-- the inner loop, from a state of the outer -/
theorem lc_inner {W : WX} {σ0 : L2.St} {Q : VK} {k : List Val → Hv → Res Val} {t : Tg} {c : DenG Bool} {e : Den} {vs : List Nat} {g1 g4 : Gh} {H1 H4 : Hp} {h1 h4 : Hv} {D : Addr} {ys0 : List Val} {xs0 : List V} {J : It} {s : Src} {σ : L2.St} {l : Loc} {Nx : Hp → Prop}
    (R1 : HR K g1 H1 h1) (nD : H1 D = none) (E0 : Ext ⟨g1.m, D :: g1.r⟩ (upd H1 D (.lst [])) g4 (upd H4 D (.lst []))) (R4 : HR K g4 H4 h4) (e4 : H4 D = some (.lst xs0)) (r4 : VRs K g4 H4 ys0 xs0) (S4 : SR K g4 H4 l σ) (sv : Serves K J g4 H4 s) (ok4 : srcOk s h4)
    (A0 : After K W (vr K) σ0 g1 H1 Q ((lcB t c e s s.1 ys0 (wipeL l vs) h4).bind k))
    (fin : ∀ g2 H h ys xs, Ext ⟨g1.m, D :: g1.r⟩ (upd H1 D (.lst [])) g2 (upd H D (.lst [])) → HR K g2 H h → H D = some (.lst xs) → VRs K g2 H ys xs → Ext g4 (upd H4 D (.lst [])) g2 (upd H D (.lst [])) → After K W (vr K) σ0 g1 H1 Q (k ys h) → Nx H) :
    ∃ W1 : Nat → Nat → Hp → Prop, (∃ m, W1 0 m H4) ∧ ∀ i m H, W1 i m H →
      (J.stop i H ∧ Nx H) ∨ (J.go i H ∧ ∃ Nx1 : Hp → Prop, (∀ H', Nx1 H' → ∃ k', k' < m ∧ W1 (i + 1) k' H') ∧ ∀ x H', J.yld i H x H' → (tTc K vs t) x (wipe σ vs) H' fun σ3 H5 => wipe σ3 vs = wipe σ vs ∧ (tG K W0 br c) σ3 H5 fun b H6 =>
        if b = true then (tG K W0 (vr K) e) σ3 H6 fun y H7 => ∃ acc, H7 D = some (.lst acc) ∧ acc.length < sizeLine ∧ Nx1 (upd H7 D (.lst (acc ++ [y]))) else Nx1 H6) := by
  let Wd : Nat → Hp → Prop := fun i H => ∃ g2 h2 ys xs, H D = some (.lst xs) ∧ Ext g4 (upd H4 D (.lst [])) g2 (upd H D (.lst [])) ∧ HR K g2 H h2 ∧ VRs K g2 H ys xs ∧ i ≤ s.1.length ∧
    After K W (vr K) σ0 g1 H1 Q ((lcB t c e s (s.1.drop i) ys (wipeL l vs) h2).bind k)
  refine ⟨fun i m H => m = s.1.length - i ∧ Wd i H, ⟨s.1.length, by simp, g4, h4, ys0, xs0, e4, Ext.refl, R4, r4, Nat.zero_le _, by simpa using A0⟩, ?_⟩
  rintro i m H ⟨rfl, g2, h2, ys, xs, eD, E4, R2, r, hil, A⟩
  have E := E0.trans E4
  have hDr : D ∈ g2.r := by rw [E.r]; exact List.mem_cons_self ..
  have hDm : D ∉ g2.m := fun z => R2.dis D z hDr
  have hD4 : D ∈ g4.r := by rw [E0.r]; exact List.mem_cons_self ..
  have hDm4 : D ∉ g4.m := fun z => R4.dis D z hD4
  obtain ⟨tm, em, nm⟩ := E4.m
  have nm : ∀ b ∈ tm, Fre H4 b := fun b hb => by
    have q := nm b hb
    have hne : b ≠ D := by
      rintro rfl
      obtain ⟨ps, z⟩ := q _ upd_same
      cases z
    intro o z
    exact q o (by rw [upd_ne hne]; exact z)
  -- but for the list itself all is as before
  have keepX : ∀ b o, b ≠ D → H4 b = some o → (∀ ps, o ≠ .tbl ps) → b ∉ g4.m → H b = some o := fun b o hne e nt hb => by
    have q := E4.keepN b o (by rw [upd_ne hne]; exact e) nt hb
    rw [upd_ne hne] at q
    exact q
  -- states and items do not speak of the list
  have R4r := R4.reset (zs := .lst []) hD4 e4 trivial trivial
  have R2r := R2.reset (zs := .lst []) hDr eD trivial trivial
  have S4r : SR K g4 (upd H4 D (.lst [])) l σ := ⟨S4.len, fun i v e => by
    obtain ⟨x, a, b⟩ := S4.at_ i v e
    exact ⟨x, a, b.reset hD4 e4 trivial⟩⟩
  have S2r : SR K g2 (upd H D (.lst [])) l σ := S4r.ext R4r E4
  have back : ∀ {v : Val} {x : V}, VR K g2 (upd H D (.lst [])) v x → VR K g2 H v x := fun {v x} q => by
    have := VR.reset (ds := .lst []) (zs := .lst xs) hDr upd_same trivial q
    rwa [upd_upd, upd_self' eD] at this
  have S2 : SR K g2 H (wipeL l vs) (wipe σ vs) := SR.wipe ⟨S2r.len, fun i v e => by
    obtain ⟨x, a, b⟩ := S2r.at_ i v e
    exact ⟨x, a, back b⟩⟩ vs
  have ES : ExtS g4 H4 g2 H := ⟨⟨tm, em, nm⟩, ⟨[], by rw [E4.r]; rfl, by simp⟩, fun b o e nt hb => keepX b o (fun z => hb (.inr (by rw [z]; exact hD4))) e nt fun z => hb (.inl z)⟩
  have SV := sv g2 H h2 ES R2
  cases hd : s.1.drop i with
  | nil =>
    have hle : s.1.length ≤ i := List.drop_eq_nil_iff.mp hd
    rw [hd] at A
    simp only [lcB] at A
    split at A
    · rename_i ok
      exact .inl ⟨(SV ok i).2 (Nat.le_antisymm hil hle), fin g2 H h2 ys xs E R2 eD r E4 A⟩
    · exact A.elim
  | cons v rest =>
    have hlt : i < s.1.length := by
      by_cases q : i < s.1.length
      · exact q
      · rw [List.drop_eq_nil_iff.mpr (by omega)] at hd; cases hd
    have hv : s.1[i]? = some v := by
      have q := congrArg List.head? hd
      rw [List.head?_drop] at q
      simpa using q
    have hr : s.1.drop (i + 1) = rest := by
      have q := congrArg List.tail hd
      rw [List.tail_drop] at q
      simpa using q
    rw [hd] at A
    simp only [lcB] at A
    split at A
    · rename_i ok
      obtain ⟨go, yl⟩ := (SV ok i).1 v hv
      refine .inr ⟨go, Wd (i + 1), fun H' q => ⟨s.1.length - (i + 1), by omega, rfl, q⟩, fun x H' y => ?_⟩
      obtain ⟨E3, R3, rx⟩ := yl x H' y
      refine ⟨g2, wipeL l vs, h2, v, S2.ext R2 E3, R3, rx, ?_⟩
      cases et : t v (wipeL l vs) h2 with
      | exc x l1 h1 => rw [et] at A; exact A
      | fail => rw [et] at A; exact A
      | ok l3 h3 =>
        rw [et] at A
        simp only at A
        intro gb Hb σb Eb Rb Sb wb
        refine ⟨wb.trans (wipe_wipe fun _ hu => hu), gb, l3, h3, Sb, Rb, ?_⟩
        cases ec : c l3 h3 with
        | exc x h1 => rw [ec] at A; exact A.elim
        | fail => rw [ec] at A; exact A.elim
        | ok b h5 =>
          rw [ec] at A
          simp only at A
          intro g5 H5 b' E5 R5 eb
          obtain rfl : b = b' := eb
          have E25 := (E3.trans Eb).trans E5
          have keepD : ∀ {g6 : Gh} {H6 : Hp}, Ext g2 H g6 H6 → H6 D = some (.lst xs) := fun E6 => E6.keep D _ eD hDm
          cases b with
          | false =>
            rw [if_neg Bool.false_ne_true] at A ⊢
            exact ⟨g5, h5, ys, xs, keepD E25, E4.trans (E25.reset hDm eD), R5, r.ext R2 E25, hlt, by rw [hr]; exact A⟩
          | true =>
            rw [if_pos rfl] at A ⊢
            refine ⟨g5, l3, h5, Sb.ext Rb E5, R5, ?_⟩
            cases ee : e l3 h5 with
            | exc x h1 => rw [ee] at A; exact A.elim
            | fail => rw [ee] at A; exact A.elim
            | ok y h6 =>
              rw [ee] at A
              simp only at A
              intro g6 H6 xv E6 R6 rv
              have E26 := E25.trans E6
              have hD6 : D ∈ g6.r := by rw [E26.r]; exact hDr
              have k6 := keepD E26
              split at A
              · rename_i hac
                refine ⟨xs, k6, by rw [← r.length]; exact line_lt hac, g6, h6, ys ++ [y], xs ++ [xv], upd_same, ?_, R6.reset hD6 k6 trivial trivial, ((r.ext R2 E26).append (.one rv)).reset hD6 k6 trivial, hlt, by rw [hr]; exact A⟩
                rw [upd_upd]
                exact E4.trans (E26.reset hDm eD)
              · exact A.elim
    · exact A.elim
theorem bind_assoc' {α β γ : Type} (r : Res α) (f : α → Hv → Res β) (k : β → Hv → Res γ) : (r.bind f).bind k = r.bind fun a h => (f a h).bind k := by
  cases r <;> rfl
theorem lc2_red {W : WX} {fin : List Val → Hv → Res Val} (hfin : FinOk K fin) {vs vs1 : List Nat} {di : DenG Src} {t : Tg} {c : DenG Bool} {di1 : DenG Src} {t1 : Tg} {c1 : DenG Bool} {e : Den} {σ : L2.St} {H : Hp} {Q : VK} (z : tG K W (vr K) (dLc2 fin vs vs1 di t c di1 t1 c1 e) σ H Q) :
    tLc2 (tI K W di) (tTc K vs t) (tG K W0 br c) (tI K W0 di1) (tTc K vs1 t1) (tG K W0 br c1) (tG K W0 (vr K) e) vs vs1 σ H Q := by
  obtain ⟨g, l, h, S, R, A⟩ := z
  refine ⟨g, l, h, S, R, ?_⟩
  unfold dLc2 at A
  unfold AfterI
  cases ed : di l h with
  | exc x h1 => rw [ed] at A; exact A
  | fail => rw [ed] at A; exact A
  | ok s h1 =>
    rw [ed] at A
    simp only [Res.bind_ok] at A
    have ok1 : srcOk s h1 := by
      cases hs1 : s.1 with
      | nil =>
        rw [hs1] at A
        simp only [lc2L] at A
        split at A
        · assumption
        · exact A.elim
      | cons x r =>
        rw [hs1] at A
        simp only [lc2L] at A
        split at A
        · assumption
        · exact A.elim
    refine ⟨ok1, fun g1 H1 J E1 R1 hz sv D nD => ?_⟩
    have A := After.ext E1 A
    have al : ∀ b ∈ g1.r, ∃ o, H1 b = some o := fun b hb => R1.own_there (.inr hb)
    have S1 := S.ext R E1
    -- the new list is put aside
    have ES : ExtS g1 H1 ⟨g1.m, D :: g1.r⟩ (upd H1 D (.lst [])) := ⟨⟨[], by simp, by simp⟩, ⟨[D], rfl, fun b hb => by rw [List.mem_singleton.mp hb]; exact fre_none nD⟩, fun b o e _ hb => by rw [upd_ne (ne_of_none e nD)]; exact e⟩
    have RD : HR K ⟨g1.m, D :: g1.r⟩ (upd H1 D (.lst [])) h1 := by
      refine ⟨R1.len, R1.nd, fun a ha z => ?_, fun a ha => ?_, fun i o a e1 e2 => ?_⟩
      · rcases List.mem_cons.mp z with z | z
        · subst z; exact R1.fresh nD (.inl ha)
        · exact R1.dis a ha z
      · rcases List.mem_cons.mp ha with z | z
        · subst z; exact ⟨_, upd_same, trivial⟩
        · obtain ⟨ob, e, mo⟩ := R1.al a z
          exact ⟨ob, by rw [upd_ne (ne_of_none e nD)]; exact e, mo⟩
      · have q := R1.obj i o a e1 e2
        cases o with
        | lst l => obtain ⟨xs, e, r⟩ := q; exact ⟨xs, by rw [upd_ne (ne_of_none e nD)]; exact e, r.extS R1 ES⟩
        | dic l => obtain ⟨xs, e, r⟩ := q; exact ⟨xs, by rw [upd_ne (ne_of_none e nD)]; exact e, r.1, r.2.extS R1 ES⟩
        | ins c f => obtain ⟨dx, gs, e, r⟩ := q; exact ⟨dx, gs, by rw [upd_ne (ne_of_none e nD)]; exact e, r.1, r.2.extS R1 ES⟩
        | dn l => obtain ⟨xs, ys, e, p, r1, r2⟩ := q; exact ⟨xs, ys, by rw [upd_ne (ne_of_none e nD)]; exact e, p, r1.extS R1 ES, r2.extS R1 ES⟩
        | tbl t => exact ⟨q.1, q.2.stay (fun ps e => by rw [upd_ne (ne_of_none e nD)]; exact e) (fun c o e nt hn => ⟨by rw [upd_ne (ne_of_none e nD)]; exact e, ES.nown hn e nt⟩)⟩
    let Wd : Nat → Hp → Prop := fun i H => ∃ g2 h2 ys xs, H D = some (.lst xs) ∧ Ext ⟨g1.m, D :: g1.r⟩ (upd H1 D (.lst [])) g2 (upd H D (.lst [])) ∧ HR K g2 H h2 ∧ VRs K g2 H ys xs ∧ i ≤ s.1.length ∧
      After K W (vr K) σ g1 H1 Q ((lc2L t c di1 t1 c1 e vs1 s (s.1.drop i) ys (wipeL l vs) h2).bind fin)
    refine ⟨fun i m H => m = s.1.length - i ∧ Wd i H, ⟨s.1.length, by simp, ⟨g1.m, D :: g1.r⟩, h1, [], [], upd_same, by rw [upd_upd]; exact Ext.refl, RD, VRs.nil, Nat.zero_le _, by simpa using A⟩, ?_⟩
    rintro i m H ⟨rfl, g2, h2, ys, xs, eD, E, R2, r, hil, A⟩
    have hDr : D ∈ g2.r := by rw [E.r]; exact List.mem_cons_self ..
    have hDm : D ∉ g2.m := fun z => R2.dis D z hDr
    obtain ⟨tm, em, nm⟩ := E.m
    have em : g2.m = g1.m ++ tm := em
    have nm : ∀ b ∈ tm, Fre H1 b := fun b hb => by
      have q := nm b hb
      have hne : b ≠ D := by
        rintro rfl
        obtain ⟨ps, z⟩ := q _ upd_same
        cases z
      intro o z
      exact q o (by rw [upd_ne hne]; exact z)
    have keep : ∀ b o, H1 b = some o → (∀ ps, o ≠ .tbl ps) → b ∉ g1.m → H b = some o := fun b o e nt hb => by
      have hne := ne_of_none e nD
      have q := E.keepN b o (by rw [upd_ne hne]; exact e) nt hb
      rw [upd_ne hne] at q
      exact q
    have E2S : ExtS g1 H1 g2 H := ⟨⟨tm, em, nm⟩, ⟨[D], E.r, fun b hb => by rw [List.mem_singleton.mp hb]; exact fre_none nD⟩, fun b o e nt hb => keep b o e nt fun z => hb (.inl z)⟩
    have E2 : Ext g1 H1 ⟨g2.m, g1.r⟩ H := ⟨⟨tm, em, nm⟩, rfl, keep, fun b o e nt => by
      have hne := ne_of_none e nD
      obtain ⟨o', q, nt'⟩ := E.there b o (by rw [upd_ne hne]; exact e) nt
      rw [upd_ne hne] at q
      exact ⟨o', q, nt'⟩⟩
    have S2 : SR K g2 H (wipeL l vs) (wipe σ vs) := (S1.extS R1 E2S).wipe vs
    cases hd : s.1.drop i with
    | nil =>
      have hle : s.1.length ≤ i := List.drop_eq_nil_iff.mp hd
      rw [hd] at A
      simp only [lc2L] at A
      split at A
      · rename_i ok
        exact .inl ⟨(sv g2 H h2 E2S R2 ok i).2 (Nat.le_antisymm hil hle), hfin nD al hDr E.r eD E2 R2 r A⟩
      · exact A.elim
    | cons v rest =>
      have hlt : i < s.1.length := by
        by_cases q : i < s.1.length
        · exact q
        · rw [List.drop_eq_nil_iff.mpr (by omega)] at hd; cases hd
      have hv : s.1[i]? = some v := by
        have q := congrArg List.head? hd
        rw [List.head?_drop] at q
        simpa using q
      have hr : s.1.drop (i + 1) = rest := by
        have q := congrArg List.tail hd
        rw [List.tail_drop] at q
        simpa using q
      rw [hd] at A
      simp only [lc2L] at A
      split at A
      · rename_i ok
        obtain ⟨go, yl⟩ := (sv g2 H h2 E2S R2 ok i).1 v hv
        refine .inr ⟨go, Wd (i + 1), fun H' q => ⟨s.1.length - (i + 1), by omega, rfl, q⟩, fun x H' y => ?_⟩
        obtain ⟨E3, R3, rx⟩ := yl x H' y
        refine ⟨g2, wipeL l vs, h2, v, S2.ext R2 E3, R3, rx, ?_⟩
        cases et : t v (wipeL l vs) h2 with
        | exc x l1 h1 => rw [et] at A; exact A
        | fail => rw [et] at A; exact A
        | ok l3 h3 =>
          rw [et] at A
          simp only at A
          intro g4 H4 σ4 E4 R4 S4 w4
          refine ⟨w4.trans (wipe_wipe fun _ hu => hu), g4, l3, h3, S4, R4, ?_⟩
          cases ec : c l3 h3 with
          | exc x h1 => rw [ec] at A; exact A.elim
          | fail => rw [ec] at A; exact A.elim
          | ok b h5 =>
            rw [ec] at A
            simp only at A
            intro g5 H5 b' E5 R5 eb
            obtain rfl : b = b' := eb
            have E25 := (E3.trans E4).trans E5
            have keepD : ∀ {g6 : Gh} {H6 : Hp}, Ext g2 H g6 H6 → H6 D = some (.lst xs) := fun E6 => E6.keep D _ eD hDm
            cases b with
            | false =>
              rw [if_neg Bool.false_ne_true] at A ⊢
              exact ⟨g5, h5, ys, xs, keepD E25, E.trans (E25.reset hDm eD), R5, r.ext R2 E25, hlt, by rw [hr]; exact A⟩
            | true =>
              rw [if_pos rfl] at A ⊢
              refine ⟨g5, l3, h5, S4.ext R4 E5, R5, ?_⟩
              cases ei : di1 l3 h5 with
              | exc x h1 => rw [ei] at A; exact A.elim
              | fail => rw [ei] at A; exact A.elim
              | ok s1 h6 =>
                rw [ei] at A
                simp only at A
                have ok6 : srcOk s1 h6 := by
                  cases hs1 : s1.1 with
                  | nil =>
                    rw [hs1] at A
                    simp only [lcB] at A
                    split at A
                    · assumption
                    · exact A.elim
                  | cons x r =>
                    rw [hs1] at A
                    simp only [lcB] at A
                    split at A
                    · assumption
                    · exact A.elim
                refine ⟨ok6, fun g6 H6 J1 E6 R6 hz1 sv1 => ?_⟩
                have E26 := E25.trans E6
                have k6 := keepD E26
                have S6 := (S4.ext R4 E5).ext R5 E6
                refine lc_inner (k := fun acc' h4 => (lc2L t c di1 t1 c1 e vs1 s rest acc' (wipeL l vs) h4).bind fin) R1 nD (E.trans (E26.reset hDm eD)) R6 k6 (r.ext R2 E26) S6 sv1 ok6 (by rw [← bind_assoc']; exact A) fun g7 H7 h7 ys7 xs7 E7 R7 e7 r7 E67 A7 => ?_
                exact ⟨g7, h7, ys7, xs7, e7, E7, R7, r7, hlt, by rw [hr]; exact A7⟩
      · exact A.elim
end
section
variable {X : Cx} {W : WX}
theorem ge_lc2 {fin : List Val → Hv → Res Val} (hfin : FinOk X.K fin) {elt tg iter tg1 iter1 : Expr} {ifs ifs1 : List Expr} {scope : Scope} (own : List (Str × Nat)) (vs1 : List Nat) {pos : Pos} {di di1 : DenG Src} {t t1 : Tg} {c c1 : DenG Bool} {e : Den} (hc : X.calm = true) (hN : X.N.Nodup) (hi : GI X W tg iter di)
    (hg : ∀ (s : Shared) (H : Hp) (C : Addr) (cl : List (Str × Addr)) (fp : List Addr), GC (X.blk s H scope (compEnvC scope cl C X.env) fp) (own.map (·.2)) tg t) (ht : ∀ (s : Shared) (H : Hp) (C : Addr) (cl : List (Str × Addr)) (fp : List Addr), GTs (X.blk s H scope (compEnvC scope cl C X.env) fp) W0 ifs c)
    (hi1 : ∀ (s : Shared) (H : Hp) (C : Addr) (cl : List (Str × Addr)) (fp : List Addr), GI (X.blk s H scope (compEnvC scope cl C X.env) fp) W0 tg1 iter1 di1)
    (hg1 : ∀ (s : Shared) (H : Hp) (C : Addr) (cl : List (Str × Addr)) (fp : List Addr), GC (X.blk s H scope (compEnvC scope cl C X.env) fp) vs1 tg1 t1) (ht1 : ∀ (s : Shared) (H : Hp) (C : Addr) (cl : List (Str × Addr)) (fp : List Addr), GTs (X.blk s H scope (compEnvC scope cl C X.env) fp) W0 ifs1 c1)
    (he : ∀ (s : Shared) (H : Hp) (C : Addr) (cl : List (Str × Addr)) (fp : List Addr), GE (X.blk s H scope (compEnvC scope cl C X.env) fp) W0 elt e) (hv : ∀ i ∈ vs1, i ∈ own.map (·.2) := by decide) (ok : blkC X.N X.env.scope scope own = true := by first | rfl | decide +kernel) (hs : ∀ x, foldedSetIterable iter X.env x = pure x := by intro _; rfl) (hs1 : ∀ env x, foldedSetIterable iter1 env x = pure x := by intro _ _; rfl) :
    GE X W (.ListComp elt [⟨tg, iter, ifs, 0⟩, ⟨tg1, iter1, ifs1, 0⟩] scope pos) (dLc2 fin (own.map (·.2)) vs1 di t c di1 t1 c1 e) :=
  PE.imp (pe_lc2 (g := tTc X.K (own.map fun p : Str × Nat => p.2) t) (tt := tG X.K W0 br c) (wi1 := tI X.K W0 di1) (g1 := tTc X.K vs1 t1) (tt1 := tG X.K W0 br c1) (te := tG X.K W0 (vr X.K) e) hc hN hi (blkOk_by ok) hv hg ht hi1 hg1 ht1 he hs hs1) fun σ H Q z => lc2_red hfin z
theorem gs_setLc2 {fin : List Val → Hv → Res Val} (hfin : FinOk X.K fin) (i : Nat) {y : Str} {py : Pos} {elt tg iter tg1 iter1 : Expr} {ifs ifs1 : List Expr} {scope : Scope} (own : List (Str × Nat)) (vs1 : List Nat) {pos spos : Pos} {di di1 : DenG Src} {t t1 : Tg} {c c1 : DenG Bool} {e : Den} (hc : X.calm = true) (hN : X.N.Nodup) (hi : GI X W tg iter di)
    (hg : ∀ (s : Shared) (H : Hp) (C : Addr) (cl : List (Str × Addr)) (fp : List Addr), GC (X.blk s H scope (compEnvC scope cl C X.env) fp) (own.map (·.2)) tg t) (ht : ∀ (s : Shared) (H : Hp) (C : Addr) (cl : List (Str × Addr)) (fp : List Addr), GTs (X.blk s H scope (compEnvC scope cl C X.env) fp) W0 ifs c)
    (hi1 : ∀ (s : Shared) (H : Hp) (C : Addr) (cl : List (Str × Addr)) (fp : List Addr), GI (X.blk s H scope (compEnvC scope cl C X.env) fp) W0 tg1 iter1 di1)
    (hg1 : ∀ (s : Shared) (H : Hp) (C : Addr) (cl : List (Str × Addr)) (fp : List Addr), GC (X.blk s H scope (compEnvC scope cl C X.env) fp) vs1 tg1 t1) (ht1 : ∀ (s : Shared) (H : Hp) (C : Addr) (cl : List (Str × Addr)) (fp : List Addr), GTs (X.blk s H scope (compEnvC scope cl C X.env) fp) W0 ifs1 c1)
    (he : ∀ (s : Shared) (H : Hp) (C : Addr) (cl : List (Str × Addr)) (fp : List Addr), GE (X.blk s H scope (compEnvC scope cl C X.env) fp) W0 elt e) (hy : X.N[i]? = some y := by rfl) (hyl : X.env.scope.names.lookup y = some .local := by rfl) (hsw : swapsWith (.ListComp elt [⟨tg, iter, ifs, 0⟩, ⟨tg1, iter1, ifs1, 0⟩] scope pos) (some (.Name y py)) spos.line X.env = pure true := by exact sw_true rfl rfl rfl (by decide +kernel)) (hv : ∀ i ∈ vs1, i ∈ own.map (·.2) := by decide) (ok : blkC X.N X.env.scope scope own = true := by first | rfl | decide +kernel) (hs : ∀ x, foldedSetIterable iter X.env x = pure x := by intro _; rfl) (hs1 : ∀ env x, foldedSetIterable iter1 env x = pure x := by intro _ _; rfl) :
    GS X W (.Assign [.Name y py] (.ListComp elt [⟨tg, iter, ifs, 0⟩, ⟨tg1, iter1, ifs1, 0⟩] scope pos) spos) (sAsg (dLc2 fin (own.map (·.2)) vs1 di t c di1 t1 c1 e) (gName i)) := by
  refine PS.imp (ps_setLc2 (g := tTc X.K (own.map fun p : Str × Nat => p.2) t) (tt := tG X.K W0 br c) (wi1 := tI X.K W0 di1) (g1 := tTc X.K vs1 t1) (tt1 := tG X.K W0 br c1) (te := tG X.K W0 (vr X.K) e) hc hN hy hyl hsw hi (blkOk_by ok) hv hg ht hi1 hg1 ht1 he hs hs1) fun D σ H ⟨g, l, h, S, R, A⟩ => ?_
  refine lc2_red hfin ?_
  refine tG_to S R A fun v h1 g1 H1 x E S1 R1 r1 A1 => ?_
  exact A1 g1 H1 _ Ext.refl R1 (S1.set i r1)
end
end GH
set_option Elab.async false
set_option linter.all false
set_option maxRecDepth 100000
set_option maxHeartbeats 1000000
set_option autoImplicit false
/-! t[:0:-1] of a tuple. -/
namespace HT
open PySem PySem.Spec PyProof.Rows
section
variable {prog : Program} {w : World} {A : Around} {E : Value → Shared → Prop} {s : Shared}
theorem gh_adjust (n : Nat) : Builtin.Slice.sliceAdjust none (some 0) (-1) (n : Int) = ((n : Int) - 1, if n = 0 then -1 else 0) := by
  unfold Builtin.Slice.sliceAdjust
  cases n with
  | zero => rfl
  | succ n =>
    refine Prod.ext ?_ ?_
    · simp
    · simp
      omega
theorem gh_places (n : Nat) : Builtin.Slice.slicePlaces ((n : Int) - 1) (if n = 0 then -1 else 0) (-1) = n - 1 := by
  unfold Builtin.Slice.slicePlaces
  cases n with
  | zero => rfl
  | succ n =>
    simp
    omega
theorem gh_applied {sl : Addr} {vl vu vs : Value} {n : Nat} {Q : Int × Int × Nat → Shared → Prop} (hs : s.heap.IsSliceOf sl vl vu vs) (pl : IsPart vl none) (pu : IsPart vu (some 0)) (ps : IsPart vs (some (-1)))
    (h : Q ((n : Int) - 1, -1, n - 1) s) : wpAny (model prog w) A (Builtin.Slice.sliceApplied (.ref sl) (pure (n : Int))) Q E s := by
  obtain ⟨os, hos, hcs, hds⟩ := id hs
  unfold Builtin.Slice.sliceApplied Builtin.Slice.sliceFields
  refine wpAny_bind (wpAny_bind (wpAny_field hos hds (x := vl) rfl (wpAny_bind (wpAny_field hos hds (x := vu) rfl (wpAny_bind (wpAny_field hos hds (x := vs) rfl (wpAny_pure ?_)))))))
  refine wpAny_bind (slicePart_ ps ?_)
  show wpAny _ _ (if ((-1 : Int) == 0) = true then _ else _) _ _ s
  rw [if_neg (by decide)]
  refine wpAny_bind (slicePart_ pl (wpAny_bind (slicePart_ pu (wpAny_bind (wpAny_pure ?_)))))
  show wpAny _ _ (match Builtin.Slice.sliceAdjust none (some 0) (-1) (n : Int) with | (lo, hi) => pure (lo, (-1 : Int), Builtin.Slice.slicePlaces lo hi (-1))) _ _ s
  rw [gh_adjust n]
  show wpAny _ _ (pure ((n : Int) - 1, (-1 : Int), Builtin.Slice.slicePlaces ((n : Int) - 1) (if n = 0 then -1 else 0) (-1))) _ _ s
  rw [gh_places]
  exact wpAny_pure h
theorem gh_pick_list (xs : List Value) : ((List.range (xs.length - 1)).filterMap fun (m : Nat) => xs[(((xs.length : Nat) : Int) - 1 + (m : Int) * -1).toNat]?) = (xs.drop 1).reverse := by
  have gen : ∀ k, k ≤ xs.length - 1 → ((List.range k).filterMap fun (m : Nat) => xs[(((xs.length : Nat) : Int) - 1 + (m : Int) * -1).toNat]?) = (xs.drop (xs.length - k)).reverse := by
    intro k
    induction k with
    | zero => intro _; simp
    | succ k ih =>
      intro hk
      rw [List.range_succ, List.filterMap_append, ih (by omega)]
      have e : (((xs.length : Nat) : Int) - 1 + (k : Int) * -1).toNat = xs.length - (k + 1) := by omega
      have hlt : xs.length - (k + 1) < xs.length := by omega
      simp only [List.filterMap_cons, e, List.getElem?_eq_getElem hlt, List.filterMap_nil]
      have d := List.drop_eq_getElem_cons hlt
      rw [d, show xs.length - (k + 1) + 1 = xs.length - k by omega]
      simp
  have := gen (xs.length - 1) (Nat.le_refl _)
  rw [this]
  cases xs with
  | nil => rfl
  | cons a l => simp
theorem gh_pick (xs : Array Value) : ((List.range (xs.size - 1)).filterMap fun (m : Nat) => xs[((xs.size : Int) - 1 + (m : Int) * -1).toNat]?).toArray = ((xs.toList.drop 1).reverse).toArray := by
  have := gh_pick_list xs.toList
  simp only [Array.length_toList, Array.getElem?_toList] at this
  rw [this]
theorem gh_getItem {t sl : Addr} {items : Array Value} {vl vu vs : Value} {Q : Value → Shared → Prop} (ht : IsTup s.heap t items) (hs : s.heap.IsSliceOf sl vl vu vs) (pl : IsPart vl none) (pu : IsPart vu (some 0)) (ps : IsPart vs (some (-1)))
    (h : Q (.ref s.heap.objs.size) { s with heap := s.heap.push { cls := .type "tuple", data := .seq ((items.toList.drop 1).reverse).toArray } })
    (hsz : items.size ≤ sizeLine) : wpAny (model prog w) A (getItem (.ref t) (.ref sl)) Q E s := by
  have htake : sizeOk (.seq ((items.toList.drop 1).reverse).toArray) := by
    show ((items.toList.drop 1).reverse).toArray.size ≤ sizeLine
    rw [List.size_toArray, List.length_reverse, List.length_drop, Array.length_toList]
    omega
  obtain ⟨os, hos, hcs, hds⟩ := id hs
  have hTs : s.TypeIs (.ref sl) "slice" := ⟨os, hos, hcs⟩
  unfold getItem
  try with_reducible refine wpAny_holding ?_
  first | refine wpAny_bind (wpAny_pure ?_) | skip
  refine wpAny_bind (wpAny_sequenceKey ht.typeIs (by decide) ?_)
  refine wpAny_bind (wpAny_callSpecial?_slot (name := Str.ofString "__getitem__") ht.typeIs PyProof.Rows.slot_tuple_getitem
    (wpAny_call_entry PyProof.Rows.slot_tuple_getitem ht.typeIs entry_tuple_getitem ?_ (args_tuple_getitem _ _)))
  show wpAny _ _ (Builtin.Tuple.tupleItemsOf (.ref t) >>= _) _ _ s
  refine wpAny_bind (tupleItemsOf_ ht ?_)
  refine wpAny_bind (wpAny_typeOf hTs ?_)
  rw [if_pos (by decide)]
  refine wpAny_bind (gh_applied hs pl pu ps ?_)
  have hno : ¬ ((((items.size : Int) - 1) == 0 && (-1 : Int) == 1 && (items.size - 1) == items.size) = true) := by
    intro q
    rw [Bool.and_eq_true, Bool.and_eq_true] at q
    exact absurd (eq_of_beq q.1.2) (by decide)
  show wpAny _ _ (if (((items.size : Int) - 1) == 0 && (-1 : Int) == 1 && (items.size - 1) == items.size) = true then _ else _) _ _ s
  rw [if_neg hno, gh_pick]
  first
    | exact wpAny_bind (m := Builtin.Tuple.tupleExact _) (wpAny_newObj_type (wpAny_pure ⟨_, rfl, wpAny_pure h⟩) htake)
    | exact wpAny_bind (m := Builtin.Tuple.tupleExact _) (wpAny_newObj_type (wpAny_bind (wpAny_pure (wpAny_pure ⟨_, rfl, wpAny_pure h⟩))) htake)
    | exact wpAny_bind (wpAny_bind (m := Builtin.Tuple.tupleExact _) (wpAny_newObj_type (wpAny_pure (wpAny_pure ⟨_, rfl, wpAny_pure h⟩)) htake))
    | exact wpAny_bind (wpAny_bind (m := Builtin.Tuple.tupleExact _) (wpAny_newObj_type (wpAny_pure ⟨_, rfl, wpAny_pure h⟩) htake))
end
end HT
namespace GH
open PySem PySem.Spec PyProof.Rows L2
variable [TheWorld]
section
variable {X : Cx} {W : WX}
def vBack (v : Val) (h : Hv) : Res Val := match v with
  | .tup l => .ok (.tup (l.drop 1).reverse) h
  | _ => .fail
def tBack (K : PySem.W.Frag) (te : TE) : TE := fun σ H Q => te σ H fun x H1 => ∃ a xs, x = .ref a ∧ SqT K H1 a xs ∧ ∀ p, H1 p = none → Q (.ref p) (upd H1 p (.tup (xs.drop 1).reverse))
theorem pe_back {e : Expr} {te : TE} {k k0 : Nat} {p0 p1 p2 p3 pos : Pos} (he : PE X e te) : PE X (.Subscript e (.Slice none (some (.Constant (.int 0) k0 p0)) (some (.UnaryOp .USub (.Constant (.int 1) k p1) p2)) p3) pos) (tBack X.K te) := by
  refine ⟨fun pins s σ H Q I h => ?_⟩
  refine Subscript_ (thn (he.run pins s σ H _ I h) fun v s1 ⟨x, H1, I1, r1, q1⟩ => ?_)
  obtain ⟨a, xs, ex, hx, q⟩ := q1
  subst ex
  cases r1
  have hst : PO X (some (.UnaryOp .USub (.Constant (.int 1) k p1) p2)) (tPart (tUn (rU fun i => .int (-i)) (tC (.int 1)))) := po_some (pe_un un_neg pe_int)
  have hup : PO X (some (.Constant (.int 0) k0 p0)) (tPart (tC (.int 0))) := po_some pe_int
  refine wpAny_Slice (thn (po_none.run pins s1 σ H1 (fun o H2 => o = none ∧ H2 = H1) I1 ⟨rfl, rfl⟩) fun vl s2 ⟨l, H2, I2, pl, el, e2⟩ => ?_)
  subst el e2
  refine thn (hup.run pins s2 σ H2 (fun o H3 => o = some 0 ∧ H3 = H2) I2 ⟨0, rfl, rfl, rfl⟩) fun vu s3 ⟨u, H3, I3, pu, eu, e3⟩ => ?_
  subst eu e3
  refine thn (hst.run pins s3 σ H3 (fun o H4 => o = some (-1) ∧ H4 = H3) I3 ⟨1, rfl, -1, rfl, rfl, rfl⟩) fun vs s4 ⟨o, H4, I4, ps, eo, e4⟩ => ?_
  subst eo e4
  have I5 : Inv X pins σ H4 { s4 with heap := s4.heap.push { cls := .type "slice", data := .fields #[vl, vu, vs] } } := I4.kept (t' := s4.toks) fun b ob q => Heap.get?_push_of_some _ q
  obtain ⟨its, r, ht, hz⟩ := I5.tuple hx
  have hlen := r.length
  refine tail_any (ops := [.ref a, .ref s4.heap.objs.size]) ht.typeIs (PyProof.Rows.slot_tuple_getitem.lookup) ?_ (by with_unfolding_all rfl)
  refine HT.gh_getItem ht (Heap.IsSliceOf.new _ vl vu vs) pl pu ps ?_ (by rw [List.size_toArray]; omega)
  refine ⟨.ref _, _, I5.laid (t' := s4.toks) (o := .tup (xs.drop 1).reverse) (fun b ob q => Heap.get?_push_of_some _ q) (Nat.le_refl _) ?_, rfl, q _ (I5.hok.fresh (Nat.le_refl _))⟩
  exact ⟨by rw [List.length_reverse, List.length_drop]; omega, _, (r.drop 1).reverse, IsTup.new _ _⟩
theorem ge_back {e : Expr} {d : Den} {k k0 : Nat} {p0 p1 p2 p3 pos : Pos} (he : GE X W e d) : GE X W (.Subscript e (.Slice none (some (.Constant (.int 0) k0 p0)) (some (.UnaryOp .USub (.Constant (.int 1) k p1) p2)) p3) pos) (dFn vBack d) := by
  refine PE.imp (pe_back he) fun σ H Q ⟨g, l, h, S, R, A⟩ => ?_
  refine tG_of S R A fun v h1 g1 H1 x E S1 R1 r1 A1 => ?_
  unfold vBack at A1
  split at A1
  · have r1 : VR X.K g1 H1 (.tup _) x := r1
    simp only [VR] at r1
    obtain ⟨a, xs, rfl, hq, rs⟩ := r1
    refine ⟨a, xs, rfl, hq, fun p np => ?_⟩
    obtain ⟨E4, R4⟩ := R1.grow (o := .tup (xs.drop 1).reverse) np
    refine A1 g1 _ (.ref p) E4 R4 ?_
    simp only [VR]
    exact ⟨p, _, rfl, SqT.of upd_same, ((rs.drop 1).reverse).ext R1 E4⟩
  · exact A1.elim
end
end GH
set_option Elab.async false
set_option linter.all false
set_option maxRecDepth 100000
set_option maxHeartbeats 4000000
set_option autoImplicit false
/-! sets of texts: made of a tuple or a list, walked, sorted. -/
namespace GH
open PySem PySem.Spec PyProof.Rows L2
variable [TheWorld]
def keyS (e : Int × Value) : Str := match e.2 with | .str k _ => k | _ => Str.empty
def GoodS (w : World) (e : Int × Value) : Prop := ∃ k tk, e.2 = Value.str k tk ∧ e.1 = hashStr w k
/-- the set of texts at a, its members L -/
def SetS (w : World) (h : Heap) (a : Addr) (L : List Str) : Prop :=
  ∃ o es ep t, h.get? a = some o ∧ o.ExactSet ∧ o.data = .set es ep t ∧ (∀ e ∈ es.toList, GoodS w e) ∧ (es.toList.map keyS).Perm L ∧ L.Nodup ∧
    es.size < scanBound ∧ t.fits es.size = true ∧ Ris t.place.toList ∧ (w.params.followText "set-order" = true ∨ t.led = true)
def addS (L : List Str) (k : Str) : List Str := if k ∈ L then L else L ++ [k]
def ddS (xs : List Str) : List Str := xs.foldl addS []
section
variable {P : Program} {w : World} {h h' : Heap} {a : Addr} {L : List Str}
theorem SetS.at (R : SetS w h a L) (k : ∀ o, h.get? a = some o → h'.get? a = some o) : SetS w h' a L := by
  obtain ⟨o, es, ep, t, ho, r⟩ := R
  exact ⟨o, es, ep, t, k o ho, r⟩
theorem goodS_elems {l : List (Int × Value)} (g : ∀ e ∈ l, GoodS w e) : ElemsOf (PySem.strKind P w) l := fun e he => by
  obtain ⟨k, tk, h1, h2⟩ := g e he
  exact ⟨⟨k, by rw [h1]; exact strKind_is P w k tk, h2⟩, by rw [h1] <;> rfl⟩
theorem goodS_is {e : Int × Value} (g : GoodS w e) (k : Str) : (PySem.strKind P w).is k e.2 = true ↔ keyS e = k := by
  obtain ⟨k0, tk, h1, _⟩ := g
  unfold keyS
  rw [h1]
  constructor
  · intro z
    exact (PySem.strKind P w).inj (.str k0 tk) k0 k (strKind_is P w k0 tk) z
  · rintro rfl
    exact strKind_is P w k0 tk
theorem goodS_mem {l : List (Int × Value)} (g : ∀ e ∈ l, GoodS w e) (k : Str) : k ∈ l.map keyS ↔ ∃ e ∈ l, (PySem.strKind P w).is k e.2 = true := by
  rw [List.mem_map]
  constructor
  · rintro ⟨e, he, q⟩
    exact ⟨e, he, (goodS_is (g e he) k).2 q⟩
  · rintro ⟨e, he, q⟩
    exact ⟨e, he, (goodS_is (g e he) k).1 q⟩
theorem addS_nodup {k : Str} (nd : L.Nodup) : (addS L k).Nodup := by
  unfold addS
  split
  · exact nd
  · rename_i c
    refine List.nodup_append.mpr ⟨nd, by simp, fun x hx y hy => ?_⟩
    rw [List.mem_singleton.mp hy]
    rintro rfl
    exact c hx
end
section
variable {P : Program} {w : World} {A : Around} {E : Value → Shared → Prop} {s : Shared} {a : Addr} {L : List Str}
theorem setS_add_tail {g : Bool → Sem Unit} (hg : ∀ (b : Bool) (s₁ : Shared) (Q' : Unit → Shared → Prop), Q' () s₁ → wpAny (model P w) A (g b) Q' E s₁)
    {o : Obj} {es : Array (Int × Value)} {ep : Nat} {t : SetTable} (ho : s.heap.get? a = some o) (hex : o.ExactSet) (hd : o.data = .set es ep t)
    {es1 : Array (Int × Value)} {t2 : SetTable} (g1 : ∀ e ∈ es1.toList, GoodS w e) (p1 : (es1.toList.map keyS).Perm L) (nd1 : L.Nodup)
    (hb1 : es1.size < scanBound) (hf2 : t2.fits es1.size = true) (hr : Ris t2.place.toList) (hl : w.params.followText "set-order" = true ∨ t2.led = true) {wasDummy : Bool} {R : Option Bool → Shared → Prop}
    (hR : ∀ h', Heap.SameBut a s.heap h' → SetS w h' a L → R (some true) { s with heap := h' }) :
    wpAny (model P w) A (do
        storeSet a es1 t2
        if (!wasDummy && t2.tooFull) = true then do
            g (relayAll t2 es1 (SetTable.grown es1.size)).2.2
            storeSet a (relayAll t2 es1 (SetTable.grown es1.size)).1 (relayAll t2 es1 (SetTable.grown es1.size)).2.1
            pure (some true)
          else pure (some true)) R E s := by
  refine wpAny_bind (wpAny_storeSet_of ho hd ?_ (fits_of_scanBound hb1))
  have ho1 := store_at (es' := es1) (t' := t2) ho hd
  have sb1 := Heap.SameBut.update s.heap a (Obj.putSet es1 t2)
  split
  · have pm := relayAll_perm t2 es1 (SetTable.grown es1.size)
    have hf3 := relayAll_fits t2 es1 (SetTable.grown es1.size)
    have hr3 := relayAll_ris t2 es1 (SetTable.grown es1.size)
    have hl3 := relayAll_led t2 es1 (SetTable.grown es1.size)
    generalize relayAll t2 es1 (SetTable.grown es1.size) = Z at pm hf3 hr3 hl3 ⊢
    obtain ⟨es2, t3, gave⟩ := Z
    dsimp only at pm hf3 hr3 hl3 ⊢
    have hsz : es2.size = es1.size := by rw [← Array.length_toList, pm.length_eq, Array.length_toList]
    have hb2 : es2.size < scanBound := by rw [hsz]; exact hb1
    refine wpAny_bind (hg _ _ _ ?_)
    refine wpAny_bind (wpAny_storeSet_of ho1 rfl ?_ (fits_of_scanBound hb2))
    have ho2 := store_at (es' := es2) (t' := t3) ho1 rfl
    refine wpAny_pure (hR _ (sb1.trans (Heap.SameBut.update _ a _)) ?_)
    exact ⟨_, es2, _, t3, ho2, hex, rfl, fun e he => g1 e (pm.mem_iff.mp he), (pm.map keyS).trans p1, nd1, hb2, hf3, hr3, hl.imp id fun z => by rw [hl3]; exact z⟩
  · exact wpAny_pure (hR _ sb1 ⟨_, es1, _, t2, ho1, hex, rfl, g1, p1, nd1, hb1, hf2, hr, hl⟩)
theorem setS_add_hashed {k : Str} {tk : Tok} {Q : Bool → Shared → Prop} (R : SetS w s.heap a L) (room : L.length + 1 < scanBound)
    (hQ : ∀ h' b, Heap.SameBut a s.heap h' → SetS w h' a (addS L k) → Q b { s with heap := h' }) :
    wpAny (model P w) A (setAddHashed a (.str k tk) (hashStr w k)) Q E s := by
  obtain ⟨o, es, ep, t, ho, hex, hd, g, pL, nd, hb, hf, hr, hl⟩ := R
  have hkey : (PySem.strKind P w).is k (.str k tk) = true := strKind_is P w k tk
  have hsc : (Value.str k tk).scannable = true := rfl
  have hel : ElemsOf (PySem.strKind P w) es.toList := goodS_elems g
  unfold setAddHashed setAddHashedIn
  refine wpAny_holding (wpAny_bind (wpAny_setState_of ho hd hf ?_))
  dsimp only
  rw [byScan_of hsc hb hel]
  simp only [↓reduceIte]
  unfold setAddByScan
  refine wpAny_bind ?_
  refine wpAny_bind (wpAny_rule ?_)
  refine wpAny_bind (wpAny_setScan_of (knd := PySem.strKind P w) (k := k) hkey ho hd hf hel ?_)
  cases hfi : List.findIdx? (fun e => (PySem.strKind P w).is k e.2) es.toList with
  | some j =>
    dsimp only
    obtain ⟨hj, pj, _⟩ := List.findIdx?_eq_some_iff_getElem.mp hfi
    have hk : k ∈ L := pL.mem_iff.mp ((goodS_mem (P := P) (w := w) g k).2 ⟨es.toList[j], List.getElem_mem hj, pj⟩)
    refine wpAny_pure (wpAny_pure ?_)
    exact hQ s.heap _ (Heap.SameBut.refl a s.heap) (by unfold addS; rw [if_pos hk]; exact ⟨o, es, ep, t, ho, hex, hd, g, pL, nd, hb, hf, hr, hl⟩)
  | none =>
    dsimp only
    have hnk : k ∉ L := fun z => by
      obtain ⟨e, he, q⟩ := (goodS_mem (P := P) (w := w) g k).1 (pL.mem_iff.mpr z)
      have c := List.findIdx?_eq_none_iff.mp hfi e he
      rw [q] at c
      cases c
    have hgw : ∀ (b : Bool) {s₁ : Shared} {Q' : Unit → Shared → Prop}, Q' () s₁ → wpAny (model P w) A (match b with | true => rule "set.scan.the-table-gave-way" | false => pure ()) Q' E s₁ :=
      fun b s₁ Q' q => by cases b <;> first | exact wpAny_pure q | exact wpAny_rule q
    have pm := layNew_perm t es (hashStr w k) (.str k tk)
    have hf1 := layNew_fits t es (hashStr w k) (.str k tk)
    have hr1 := layNew_ris t es (hashStr w k) (.str k tk) hr
    have hl1 := layNew_led t es (hashStr w k) (.str k tk)
    generalize layNew t es (hashStr w k) (.str k tk) = Z at pm hf1 hr1 hl1 ⊢
    obtain ⟨es1, t1, wasDummy, gave⟩ := Z
    dsimp only at pm hf1 hr1 hl1 ⊢
    rw [Array.toList_push] at pm
    have pc : es1.toList.Perm ((hashStr w k, Value.str k tk) :: es.toList) := pm.trans (List.perm_append_singleton _ _)
    have pk : (es1.toList.map keyS).Perm (addS L k) := by
      unfold addS
      rw [if_neg hnk]
      exact (pc.map keyS).trans (List.Perm.trans (List.Perm.cons _ pL) (List.perm_append_singleton _ _).symm)
    have g1 : ∀ e ∈ es1.toList, GoodS w e := fun e he => by
      rcases List.mem_cons.mp (pc.mem_iff.mp he) with z | z
      · rw [z]; exact ⟨k, tk, rfl, rfl⟩
      · exact g e z
    have nd1 : (addS L k).Nodup := addS_nodup nd
    have hLs : es.size = L.length := by rw [← pL.length_eq, List.length_map, Array.length_toList]
    have hsz : es1.size = L.length + 1 := by rw [← Array.length_toList, pc.length_eq, List.length_cons, Array.length_toList, hLs]
    have hb1 : es1.size < scanBound := by rw [hsz]; exact room
    have hled : w.params.followText "set-order" = true ∨ t1.led = true := hl.imp id fun z => by rw [hl1]; exact z
    refine wpAny_bind (hgw _ ?_)
    split
    · refine wpAny_bind ?_
      rw [hashByValue_scannable 8 hsc]
      refine wpAny_pure ?_
      refine setS_add_tail ?_ ho hex hd g1 pk nd1 hb1 ?_ ?_ ?_ ?_
      · intro b s₁ Q' q; cases b <;> first | exact wpAny_pure q | exact wpAny_rule q
      · first | (split <;> first | exact hf1 | exact SetTable.fits_plain_off hf1) | exact hf1
      · first | (split <;> exact hr1) | exact hr1
      · first | (split <;> exact hled) | exact hled
      · intro h' sb r; dsimp only; exact wpAny_pure (hQ h' _ sb r)
    · refine wpAny_bind (wpAny_pure ?_)
      simp only [↓reduceIte]
      refine setS_add_tail ?_ ho hex hd g1 pk nd1 hb1 hf1 hr1 hled ?_
      · intro b s₁ Q' q; cases b <;> first | exact wpAny_pure q | exact wpAny_rule q
      · intro h' sb r; dsimp only; exact wpAny_pure (hQ h' _ sb r)
theorem setS_new_at {h : Heap} (ho : h.get? a = some { cls := .type "set", dict := none, data := .set #[] 0 (.fresh 0 0 (!w.params.followText "set-order")) }) : SetS w h a [] :=
  ⟨_, #[], 0, _, ho, ⟨rfl, rfl, rfl⟩, rfl, (fun e he => by simp at he), List.Perm.refl _, List.nodup_nil, (by decide), (by rfl), List.Pairwise.nil, by
    show _ ∨ (!w.params.followText "set-order") = true
    cases w.params.followText "set-order"
    · exact .inr rfl
    · exact .inl rfl⟩
theorem addS_len (L : List Str) (k : Str) : (addS L k).length ≤ L.length + 1 := by
  unfold addS
  split
  · omega
  · simp
theorem ddS_len_aux : ∀ (xs L : List Str), (xs.foldl addS L).length ≤ L.length + xs.length
  | [], L => by simp
  | x :: xs, L => by
    have := ddS_len_aux xs (addS L x)
    have := addS_len L x
    simp only [List.foldl_cons, List.length_cons]
    omega
theorem ddS_len (xs : List Str) : (ddS xs).length ≤ xs.length := by
  have := ddS_len_aux xs []
  simpa [ddS] using this
theorem set_update_txt {I : Addr} {fp wr : List Addr} {G : Array GenState → Array GenState → Prop} {n : Nat} {Pv : Nat → Value → Prop} {St : Nat → Shared → Prop} {R : Result → Shared → Prop}
    (W : WalksS P w A.in1 I fp wr G n Pv St) (S : Addr) (hSf : S ∉ fp) (ns : List Str) (hn : n = ns.length) (hb : ns.length + 1 < scanBound) (hval : ∀ i v, Pv i v → ∃ k t, ns[i]? = some k ∧ v = .str k t) :
    ∀ (k i : Nat) (s : Shared), n - i = k → i ≤ n → St i s → SetS w s.heap S (ddS (ns.take i)) →
      (∀ s', Moved (S :: wr) G s s' → SetS w s'.heap S (ddS ns) → R (.ok (.ret .none)) s') →
      codeAny (model P w) A (.builtin "set.update.loop" ⟨[.ref S, .ref I], []⟩) R s := by
  have hSw : S ∉ wr := fun h => hSf (W.sub _ h)
  have hsub : ∀ b ∈ wr, b ∈ S :: wr := fun b hb => List.mem_cons_of_mem _ hb
  intro k
  induction k with
  | zero =>
    intro i s hk' hi hst hS hR
    have hin : i = n := by omega
    subst hin
    refine codeAny_builtin F.entry_set_update_loop ?_
    rw [Around.under_plainId F.plain_set_update_loop _]
    show wpAny _ A.in1 (pyNext (.ref I) >>= _) _ _ s
    refine wpAny_bind (W.done s _ _ hst fun s' hm => ?_)
    show wpAny _ A.in1 (ret Value.none) _ _ s'
    have e : ns.take i = ns := List.take_of_length_le (by omega)
    rw [e] at hS
    exact wpAny_pure (hR s' (hm.mono hsub) (hS.at fun o e => hm.heap S o hSw e))
  | succ k ih =>
    intro i s hk' hi hst hS hR
    have hlt : i < n := by omega
    refine codeAny_builtin F.entry_set_update_loop ?_
    rw [Around.under_plainId F.plain_set_update_loop _]
    show wpAny _ A.in1 (pyNext (.ref I) >>= _) _ _ s
    refine wpAny_bind (W.item i s _ _ hlt hst fun v s' hP hst' hm => ?_)
    obtain ⟨z, t, hz, rfl⟩ := hval i v hP
    have hS' : SetS w s'.heap S (ddS (ns.take i)) := hS.at fun o e => hm.heap S o hSw e
    show wpAny _ A.in1 (holding [Value.str z t] (setAdd S (.str z t)) >>= _) _ _ s'
    refine wpAny_bind (wpAny_holding ?_)
    unfold setAdd
    refine wpAny_holding ?_
    refine wpAny_bind ((PySem.strKind P w).pyHash (k := z) (strKind_is _ _ _ _) ?_)
    have hlen : (ddS (ns.take i)).length + 1 < scanBound := by
      have := ddS_len (ns.take i)
      rw [List.length_take] at this
      omega
    refine setS_add_hashed (s := { s' with toks := s'.toks + 1 }) hS' hlen fun h' b hsb hS2 => ?_
    have hS3 : SetS w h' S (ddS (ns.take (i + 1))) := by
      have e : ddS (ns.take (i + 1)) = addS (ddS (ns.take i)) z := by
        rw [List.take_add_one, hz]
        simp [ddS, List.foldl_append]
      rw [e]
      exact hS2
    refine wpAny_pure ⟨plainId_quiet F.plain_set_update_loop _, ih (i + 1) _ (by omega) hlt (W.frame _ s' _ _ hst' (Nat.le_succ _) fun b hb o e => ?_) hS3 fun s'' hm'' hS'' => ?_⟩
    · rw [hsb.2 b (fun h : b = S => hSf (by rw [← h]; exact hb))]; exact e
    · refine hR s'' (Moved.trans W.gtrans ((hm.mono hsub).then_heap (Nat.le_succ _) fun b o hb e => ?_) hm'') hS''
      rw [hsb.2 b (fun h : b = S => hb (by rw [h]; exact List.mem_cons_self))]; exact e
end
end GH
set_option Elab.async false
set_option linter.all false
set_option maxRecDepth 100000
set_option maxHeartbeats 4000000
set_option autoImplicit false
/-! set(xs) of a tuple or a list of texts. -/
namespace GH
open PySem PySem.Spec PyProof.Rows L2
variable [TheWorld]
section
variable {P : Program} {w : World} {A : Around} {E : Value → Shared → Prop} {s : Shared}

set_option maxRecDepth 100000 in
set_option maxHeartbeats 3200000 in
theorem call_setSTup {l : Addr} {items : Array Value} (ns : List Str) {Q : Value → Shared → Prop} (hh : A.handled = none) (hl : s.heap.IsTuple l items) (hit : StrsAre items.toList ns) (hb : ns.length + 1 < scanBound)
    (h : ∀ (h' : Heap) (tk : Nat), SetS w h' s.heap.objs.size (ddS ns) → (∀ b o, s.heap.get? b = some o → h'.get? b = some o) → Q (.ref s.heap.objs.size) { s with heap := h', toks := tk }) :
    wpAny (model P w) A (call (.type "set") [.ref l]) Q E s := by
  have hisz : items.size = ns.length := by
    have q := StrsAre.len_eq hit
    rw [Array.length_toList] at q
    exact q
  obtain ⟨c, tl, hmro⟩ := F.called_set.mro
  have hmade := F.called_set.made
  have hsub := F.called_set.sub
  refine wpAny_call (codeAny_of_tree ?_)
  show wpAny _ _ (callAny (.type "set") _) _ _ _
  refine wpAny_pure ⟨Code.quiet_builtin _ (by decide +kernel), codeAny_builtin F.entry_type_call ?_⟩
  rw [Around.under_plain (weight_type_call_type "set" [.ref l] []) rfl]
  have h1 := F.called_set.notType
  have h2 := F.called_set.canCreate
  have hct := F.typeCall_set_1 (.ref l)
  repeat (any_goals (first | assumption | wp_step))

  refine codeAny_mono (code_set_led1 (.ref l) (E := E) (Q₁ := fun obj s₁ => obj = .ref s.heap.objs.size ∧ s₁ = { s with heap := s.heap.push { cls := .type "set", dict := none, data := .set #[] 0 (.fresh 0 0 (!w.params.followText "set-order")) } }) ⟨rfl, rfl⟩) fun r s₁ hr => ?_
  cases r with
  | error e => exact hr
  | ok fl =>
    cases fl with
    | ret obj =>
      obtain ⟨rfl, rfl⟩ := hr
      have hS : (s.heap.push { cls := .type "set", dict := none, data := .set #[] 0 (.fresh 0 0 (!w.params.followText "set-order")) }).get? s.heap.objs.size = some { cls := .type "set", dict := none, data := .set #[] 0 (.fresh 0 0 (!w.params.followText "set-order")) } := Heap.get?_push_size _ rfl
      have hT : Shared.TypeIs { s with heap := s.heap.push { cls := .type "set", dict := none, data := .set #[] 0 (.fresh 0 0 (!w.params.followText "set-order")) } } (.ref s.heap.objs.size) "set" := ⟨_, hS, rfl⟩
      have hli := F.called_set.init.lookup
      have hbi := F.called_set.init.bind (.ref s.heap.objs.size)
      repeat (any_goals (first | assumption | wp_step))

      refine codeAny_mono (codeAny_call_builtin (R := wants (fun r s₂ => r = .none ∧ ∃ h' tk, s₂ = { s with heap := h', toks := tk } ∧ SetS w h' s.heap.objs.size (ddS ns) ∧
          (∀ b o, s.heap.get? b = some o → h'.get? b = some o)) E) F.called_set.init.plain F.entry_set_init (check_set_init_1 hT ?_)) fun r₂ s₂ hr₂ => ?_
      · obtain ⟨ol, hol, hcl, nl, hdl⟩ := hl
        obtain ⟨ocls, odict, odata, oslots⟩ := ol
        simp only at hcl hdl
        subst hcl; subst hdl
        have hol' : (s.heap.push { cls := .type "set", dict := none, data := .set #[] 0 (.fresh 0 0 (!w.params.followText "set-order")) }).get? l = some { cls := .type "tuple", dict := odict, data := .seq items nl, slots := oslots } := Heap.get?_push_of_some _ hol
        have hsls := F.sub_tuple_set
        have hslf := F.sub_tuple_frozenset
        have hne : (Value.type "tuple" == Value.type "dict") = false := by decide
        have hl1 : (s.heap.push { cls := .type "set", dict := none, data := .set #[] 0 (.fresh 0 0 (!w.params.followText "set-order")) }).IsTuple l items := ⟨_, hol', rfl, nl, rfl⟩
        unfold Builtin.«set.__init__» noKeywords Builtin.Frozenset.updateFrom
        generalize hPI : pyIter = PI
        wp_walk
        subst hPI

        refine wpAny_pyIter_tuple hl1 ?_
        refine wpAny_bind (wpAny_runValue ?_)
        have hlS : l < s.heap.objs.size := Heap.lt_size hol
        have hh3 : A.in1.in1.in1.handled = none := by simp [hh]
        have hz1 : (s.heap.push { cls := .type "set", dict := none, data := .set #[] 0 (.fresh 0 0 (!w.params.followText "set-order")) }).objs.size = s.heap.objs.size + 1 := Heap.size_push ..
        have hneI : l ≠ (s.heap.push { cls := .type "set", dict := none, data := .set #[] 0 (.fresh 0 0 (!w.params.followText "set-order")) }).objs.size := by
          rw [Heap.size_push]; exact Nat.ne_of_lt (Nat.lt_succ_of_lt hlS)
        have hSf : s.heap.objs.size ∉ [(s.heap.push { cls := .type "set", dict := none, data := .set #[] 0 (.fresh 0 0 (!w.params.followText "set-order")) }).objs.size, l] := by
          rw [Heap.size_push]; simp only [List.mem_cons, List.mem_singleton, List.not_mem_nil, or_false, not_or]
          exact ⟨Nat.ne_of_lt (Nat.lt_succ_self _), Nat.ne_of_gt hlS⟩
        have hval : ∀ (i : Nat) (v : Value), items[i]? = some v → ∃ k t, ns[i]? = some k ∧ v = .str k t := fun i v hv => by
          have hi : i < ns.length := by rw [← hisz]; exact (Array.getElem?_eq_some_iff.mp hv).1
          obtain ⟨t, e⟩ := SS.strs_at hit i v (by rw [Array.getElem?_toList]; exact hv)
          refine ⟨ns[i], t, List.getElem?_eq_getElem hi, ?_⟩
          rw [e, List.getD_eq_getElem?_getD, List.getElem?_eq_getElem hi] <;> rfl
        refine set_update_txt ((Walks.tuple hh3 _ l hneI items).toS) s.heap.objs.size
          hSf ns hisz hb hval (items.size - 0) 0 _ (by omega) (Nat.zero_le _)
          ⟨⟨_, Heap.get?_push_size _ rfl, rfl, rfl⟩, (hl1.push _)⟩ ?hS0 ?hR
        case hS0 =>
          have hget : ((s.heap.push { cls := .type "set", dict := none, data := .set #[] 0 (.fresh 0 0 (!w.params.followText "set-order")) }).push { cls := .type "tuple_iterator", data := .fields #[.ref l, .int 0 0] }).get? s.heap.objs.size
              = some { cls := .type "set", dict := none, data := .set #[] 0 (.fresh 0 0 (!w.params.followText "set-order")) } := Heap.get?_push_of_some _ hS
          exact setS_new_at hget
        case hR =>
          intro s' hm hS'
          obtain ⟨h', g2, d', tk', os'⟩ := s'
          have eg : g2 = s.gens := hm.gens
          have ed : d' = s.drawn := hm.drawn
          have eo : os' = s.os := hm.os
          subst eg; subst ed; subst eo
          show wpAny _ _ _ _ _ _
          refine wpAny_pure ?_
          show wpAny _ _ (ret Value.none) _ _ _
          refine wpAny_pure ⟨rfl, h', tk', rfl, hS', fun b o e => ?_⟩
          have hb0 : b < s.heap.objs.size := Heap.lt_size e
          have hb1 : b ≠ s.heap.objs.size := Nat.ne_of_lt hb0
          have hb2 : b ≠ (s.heap.push { cls := .type "set", dict := none, data := .set #[] 0 (.fresh 0 0 (!w.params.followText "set-order")) }).objs.size := by
            rw [Heap.size_push]; exact Nat.ne_of_lt (Nat.lt_succ_of_lt hb0)
          exact hm.heap b o (by simp only [List.mem_cons, List.mem_singleton, List.not_mem_nil, or_false, not_or]; exact ⟨hb1, hb2⟩) (Heap.get?_push_of_some _ (Heap.get?_push_of_some _ e))

      · cases r₂ with
        | error e => exact hr₂
        | ok fl₂ =>
          cases fl₂ with
          | ret r =>
            obtain ⟨rfl, h', tk, rfl, hS', hk'⟩ := hr₂
            repeat (any_goals (first | assumption | wp_step))
            exact h _ _ hS' hk'
          | _ => exact hr₂.elim
    | _ => exact hr.elim

set_option maxRecDepth 100000 in
set_option maxHeartbeats 3200000 in
theorem call_setSLst {l : Addr} {items : Array Value} (ns : List Str) {Q : Value → Shared → Prop} (hh : A.handled = none) (hl : s.heap.IsList l items) (hit : StrsAre items.toList ns) (hb : ns.length + 1 < scanBound)
    (h : ∀ (h' : Heap) (tk : Nat), SetS w h' s.heap.objs.size (ddS ns) → (∀ b o, s.heap.get? b = some o → h'.get? b = some o) → Q (.ref s.heap.objs.size) { s with heap := h', toks := tk }) :
    wpAny (model P w) A (call (.type "set") [.ref l]) Q E s := by
  have hisz : items.size = ns.length := by
    have q := StrsAre.len_eq hit
    rw [Array.length_toList] at q
    exact q
  obtain ⟨c, tl, hmro⟩ := F.called_set.mro
  have hmade := F.called_set.made
  have hsub := F.called_set.sub
  refine wpAny_call (codeAny_of_tree ?_)
  show wpAny _ _ (callAny (.type "set") _) _ _ _
  refine wpAny_pure ⟨Code.quiet_builtin _ (by decide +kernel), codeAny_builtin F.entry_type_call ?_⟩
  rw [Around.under_plain (weight_type_call_type "set" [.ref l] []) rfl]
  have h1 := F.called_set.notType
  have h2 := F.called_set.canCreate
  have hct := F.typeCall_set_1 (.ref l)
  repeat (any_goals (first | assumption | wp_step))

  refine codeAny_mono (code_set_led1 (.ref l) (E := E) (Q₁ := fun obj s₁ => obj = .ref s.heap.objs.size ∧ s₁ = { s with heap := s.heap.push { cls := .type "set", dict := none, data := .set #[] 0 (.fresh 0 0 (!w.params.followText "set-order")) } }) ⟨rfl, rfl⟩) fun r s₁ hr => ?_
  cases r with
  | error e => exact hr
  | ok fl =>
    cases fl with
    | ret obj =>
      obtain ⟨rfl, rfl⟩ := hr
      have hS : (s.heap.push { cls := .type "set", dict := none, data := .set #[] 0 (.fresh 0 0 (!w.params.followText "set-order")) }).get? s.heap.objs.size = some { cls := .type "set", dict := none, data := .set #[] 0 (.fresh 0 0 (!w.params.followText "set-order")) } := Heap.get?_push_size _ rfl
      have hT : Shared.TypeIs { s with heap := s.heap.push { cls := .type "set", dict := none, data := .set #[] 0 (.fresh 0 0 (!w.params.followText "set-order")) } } (.ref s.heap.objs.size) "set" := ⟨_, hS, rfl⟩
      have hli := F.called_set.init.lookup
      have hbi := F.called_set.init.bind (.ref s.heap.objs.size)
      repeat (any_goals (first | assumption | wp_step))

      refine codeAny_mono (codeAny_call_builtin (R := wants (fun r s₂ => r = .none ∧ ∃ h' tk, s₂ = { s with heap := h', toks := tk } ∧ SetS w h' s.heap.objs.size (ddS ns) ∧
          (∀ b o, s.heap.get? b = some o → h'.get? b = some o)) E) F.called_set.init.plain F.entry_set_init (check_set_init_1 hT ?_)) fun r₂ s₂ hr₂ => ?_
      · obtain ⟨ol, hol, hcl, nl, hdl⟩ := hl
        obtain ⟨ocls, odict, odata, oslots⟩ := ol
        simp only at hcl hdl
        subst hcl; subst hdl
        have hol' : (s.heap.push { cls := .type "set", dict := none, data := .set #[] 0 (.fresh 0 0 (!w.params.followText "set-order")) }).get? l = some { cls := .type "list", dict := odict, data := .seq items nl, slots := oslots } := Heap.get?_push_of_some _ hol
        have hsls := F.sub_list_set
        have hslf := F.sub_list_frozenset
        have hne : (Value.type "list" == Value.type "dict") = false := by decide
        have hl1 : (s.heap.push { cls := .type "set", dict := none, data := .set #[] 0 (.fresh 0 0 (!w.params.followText "set-order")) }).IsList l items := ⟨_, hol', rfl, nl, rfl⟩
        unfold Builtin.«set.__init__» noKeywords Builtin.Frozenset.updateFrom
        generalize hPI : pyIter = PI
        wp_walk
        subst hPI

        refine wpAny_pyIter_list hl1 ?_
        refine wpAny_bind (wpAny_runValue ?_)
        have hlS : l < s.heap.objs.size := Heap.lt_size hol
        have hh3 : A.in1.in1.in1.handled = none := by simp [hh]
        have hz1 : (s.heap.push { cls := .type "set", dict := none, data := .set #[] 0 (.fresh 0 0 (!w.params.followText "set-order")) }).objs.size = s.heap.objs.size + 1 := Heap.size_push ..
        have hneI : l ≠ (s.heap.push { cls := .type "set", dict := none, data := .set #[] 0 (.fresh 0 0 (!w.params.followText "set-order")) }).objs.size := by
          rw [Heap.size_push]; exact Nat.ne_of_lt (Nat.lt_succ_of_lt hlS)
        have hSf : s.heap.objs.size ∉ [(s.heap.push { cls := .type "set", dict := none, data := .set #[] 0 (.fresh 0 0 (!w.params.followText "set-order")) }).objs.size, l] := by
          rw [Heap.size_push]; simp only [List.mem_cons, List.mem_singleton, List.not_mem_nil, or_false, not_or]
          exact ⟨Nat.ne_of_lt (Nat.lt_succ_self _), Nat.ne_of_gt hlS⟩
        have hval : ∀ (i : Nat) (v : Value), items[i]? = some v → ∃ k t, ns[i]? = some k ∧ v = .str k t := fun i v hv => by
          have hi : i < ns.length := by rw [← hisz]; exact (Array.getElem?_eq_some_iff.mp hv).1
          obtain ⟨t, e⟩ := SS.strs_at hit i v (by rw [Array.getElem?_toList]; exact hv)
          refine ⟨ns[i], t, List.getElem?_eq_getElem hi, ?_⟩
          rw [e, List.getD_eq_getElem?_getD, List.getElem?_eq_getElem hi] <;> rfl
        refine set_update_txt ((Walks.list hh3 _ l hneI items).toS) s.heap.objs.size
          hSf ns hisz hb hval (items.size - 0) 0 _ (by omega) (Nat.zero_le _)
          ⟨⟨_, Heap.get?_push_size _ rfl, rfl, rfl⟩, (hl1.push _)⟩ ?hS0 ?hR
        case hS0 =>
          have hget : ((s.heap.push { cls := .type "set", dict := none, data := .set #[] 0 (.fresh 0 0 (!w.params.followText "set-order")) }).push { cls := .type "list_iterator", data := .fields #[.ref l, .int 0 0] }).get? s.heap.objs.size
              = some { cls := .type "set", dict := none, data := .set #[] 0 (.fresh 0 0 (!w.params.followText "set-order")) } := Heap.get?_push_of_some _ hS
          exact setS_new_at hget
        case hR =>
          intro s' hm hS'
          obtain ⟨h', g2, d', tk', os'⟩ := s'
          have eg : g2 = s.gens := hm.gens
          have ed : d' = s.drawn := hm.drawn
          have eo : os' = s.os := hm.os
          subst eg; subst ed; subst eo
          show wpAny _ _ _ _ _ _
          refine wpAny_pure ?_
          show wpAny _ _ (ret Value.none) _ _ _
          refine wpAny_pure ⟨rfl, h', tk', rfl, hS', fun b o e => ?_⟩
          have hb0 : b < s.heap.objs.size := Heap.lt_size e
          have hb1 : b ≠ s.heap.objs.size := Nat.ne_of_lt hb0
          have hb2 : b ≠ (s.heap.push { cls := .type "set", dict := none, data := .set #[] 0 (.fresh 0 0 (!w.params.followText "set-order")) }).objs.size := by
            rw [Heap.size_push]; exact Nat.ne_of_lt (Nat.lt_succ_of_lt hb0)
          exact hm.heap b o (by simp only [List.mem_cons, List.mem_singleton, List.not_mem_nil, or_false, not_or]; exact ⟨hb1, hb2⟩) (Heap.get?_push_of_some _ (Heap.get?_push_of_some _ e))

      · cases r₂ with
        | error e => exact hr₂
        | ok fl₂ =>
          cases fl₂ with
          | ret r =>
            obtain ⟨rfl, h', tk, rfl, hS', hk'⟩ := hr₂
            repeat (any_goals (first | assumption | wp_step))
            exact h _ _ hS' hk'
          | _ => exact hr₂.elim
    | _ => exact hr.elim
end
end GH
set_option Elab.async false
set_option linter.all false
set_option maxRecDepth 100000
set_option maxHeartbeats 4000000
set_option autoImplicit false
/-! sorted(set(xs)), texts. -/
namespace GH
open PySem PySem.Spec PyProof.Rows L2 PySem.W PySem.Calls
variable [TheWorld]
def leS (a b : Str) : Bool := decide (a.cps.toList ≤ b.cps.toList)
theorem sortS_perm {bs L : List Str} (p : bs.Perm L) : bs.mergeSort leS = L.mergeSort leS := by
  have tr : ∀ a b c : Str, leS a b = true → leS b c = true → leS a c = true := fun a b c h1 h2 => by
    simp only [leS, decide_eq_true_eq] at *
    exact List.le_trans h1 h2
  have to : ∀ a b : Str, (leS a b || leS b a) = true := fun a b => by
    simp only [leS, Bool.or_eq_true, decide_eq_true_eq]
    exact List.le_total _ _
  refine List.Perm.eq_of_pairwise (le := fun a b => leS a b = true) (fun a b _ _ h1 h2 => ?_) (List.pairwise_mergeSort tr to bs) (List.pairwise_mergeSort tr to L) (((List.mergeSort_perm bs leS).trans p).trans (List.mergeSort_perm L leS).symm)
  simp only [leS, decide_eq_true_eq] at h1 h2
  have := List.le_antisymm h1 h2
  cases a; cases b
  simp only [Str.mk.injEq]
  exact Array.toList_inj.mp this
def IsS (v : Value) (k : Str) : Prop := ∃ t, v = .str k t
section
variable {P : Program} {w : World} {A : Around} {E : Value → Shared → Prop} {s : Shared} {a : Addr} {L : List Str}
theorem each_isS : ∀ (vs : List Value), (∀ v ∈ vs, ∃ k t, v = Value.str k t) → EachIs IsS vs (vs.map fun v => keyS (0, v))
  | [], _ => .nil
  | v :: vs, h => by
    obtain ⟨k, t, rfl⟩ := h v (List.mem_cons_self ..)
    exact .cons ⟨t, rfl⟩ (each_isS vs fun u hu => h u (List.mem_cons_of_mem _ hu))
theorem sorted_setS {Q : Value → Shared → Prop} (R : SetS w s.heap a L) (hh : A.handled = none) (h64 : L.length < 4000) (hu : A.units + 10 < cLine)
    (hQ : ∀ s' p (out : List Value) (c : Nat), (∀ b o, s.heap.get? b = some o → s'.heap.get? b = some o) → s'.gens = s.gens → s'.os = s.os → s.heap.objs.size ≤ p →
      s'.heap.get? p = some (seqObj "list" out.toArray c) → EachIs IsS out (L.mergeSort leS) → Q (.ref p) s') :
    wpAny (model P w) A (call (.builtin "sorted") [.ref a]) Q E s := by
  obtain ⟨o, es, ep, t, ho, hex, hd, g, pL, nd, hb, hf, hr, hl⟩ := R
  refine Calls.call_function_entry kind_sorted plain_sorted entry_sorted (args_sorted1 _) ?_
  unfold Builtin.«sorted»
  refine wpAny_bind (m := checkCount "sorted" 1 1 _) (wpAny_pure ?_)
  refine wpAny_bind (collect_set (A := A.in1) hh ⟨o, ho, hex.1, hd⟩ hf hb hr hl fun s1 vs k1 hz g1 o1 pm => ?_)
  have hvl : vs.length = L.length := by rw [pm.length_eq, List.length_map, ← pL.length_eq, List.length_map]
  have e := each_isS vs fun v hv => by
    obtain ⟨e, he, q⟩ := List.mem_map.mp (pm.mem_iff.mp hv)
    obtain ⟨k, tk, h1, _⟩ := g e he
    exact ⟨k, tk, by rw [← q]; exact h1⟩
  have pk : (vs.map fun v => keyS (0, v)).Perm L := by
    have q := pm.map fun v => keyS (0, v)
    rw [List.map_map] at q
    exact q.trans pL
  have hsl : vs.length ≤ sizeLine := by rw [hvl, sizeLine_eq]; omega
  refine wpAny_bind (wpAny_newList ?_ hsl)
  have hoL : (s1.heap.push (seqObj "list" vs.toArray 0)).get? s1.heap.objs.size = some (seqObj "list" vs.toArray 0) := Heap.get?_push_size _ rfl
  have er : ∀ h : Heap, EachIs (fun v b => ∃ as, Reads h v (PyData.str b) as) vs (vs.map fun v => keyS (0, v)) := fun h => e.mono fun v b ⟨t, q⟩ => ⟨[], by rw [q]; exact .str _ _⟩
  have hal : AllAlike ((vs.map fun v => keyS (0, v)).map PyData.str) := AllAlike.of fun b b' => by simp [alike]
  have hk : Sortable ((vs.map fun v => keyS (0, v)).map PyData.str) := Sortable.others fun b => ⟨by simp, by simp⟩
  refine wpAny_bind (wpAny_holding (wpAny_call_entry slot_list_sort ⟨_, hoL, rfl⟩ entry_list_sort
    (list_sort_vals (s := { s1 with heap := s1.heap.push (seqObj "list" vs.toArray 0) }) hoL (SortsAt.data (each_map (R := fun v d => ∃ as, Reads _ v d as) PyData.str (er _)) hal hk (bound_map fun b hb => ?_)) hsl ⟨_, rfl, ?_⟩) (args_list_sort _)))
  · simp [PyData.depth]
    omega
  · obtain ⟨c, hc⟩ := sortedHeap_at (vs := vs) (out := (sortVals (dataKind (sortingHeap (s1.heap.push (seqObj "list" vs.toArray 0)) s1.heap.objs.size vs) ((vs.map fun v => keyS (0, v)).map PyData.str)) false vs vs).toArray) hoL
    have q := sortVals_data false e (er (sortingHeap (s1.heap.push (seqObj "list" vs.toArray 0)) s1.heap.objs.size vs)) hal
    rw [dataLe_str (fun b : Str => b)] at q
    have q2 : EachIs IsS _ (L.mergeSort leS) := sortS_perm pk ▸ q
    refine wpAny_pure ⟨_, rfl, hQ _ s1.heap.objs.size _ c (fun b u eb => ?_) g1 o1 hz hc q2⟩
    have q := k1 b u eb
    have hlt := Heap.lt_size q
    show (sortedHeap (s1.heap.push (seqObj "list" vs.toArray 0)) s1.heap.objs.size vs _).get? b = some u
    rw [sortedHeap_old (Nat.ne_of_lt hlt) (by rw [size_push']; exact Nat.lt_succ_of_lt hlt)]
    exact Heap.get?_push_of_some _ q
end
end GH
set_option Elab.async false
set_option linter.all false
set_option maxRecDepth 100000
set_option maxHeartbeats 4000000
set_option autoImplicit false
/-! sorted(set(xs)), texts: the rule. -/
namespace GH
open PySem PySem.Spec PyProof.Rows L2
variable [TheWorld]
def SetSO (w : World) (a : Addr) (L : List Str) : HO := .ext fun h => SetS w h a L
section
variable {X : Cx} {W : WX}
theorem setSO_new {w : World} {P : Program} {H : Hp} {h : Heap} {a : Addr} {L : List Str} (R : SetS w h a L) : ObjOk P w H h a (SetSO w a L) := by
  have ⟨o, _, _, _, ho, _⟩ := R
  exact ⟨R, ⟨o, ho⟩, fun h1 h2 p k => SetS.at p k⟩
theorem setSO_get {pins : List (Addr × Obj)} {σ : L2.St} {H : Hp} {s : Shared} {a : Addr} {L : List Str} (I : Inv X pins σ H s) (ha : H a = some (SetSO X.w a L)) : SetS X.w s.heap a L := (I.hok a _ ha).1
def rSetS (K : PySem.W.Frag) (w : World) : List V → Hp → VK → Prop := fun xs H Q => ∃ (l : Addr) (ns : List Str), xs = [V.ref l] ∧ (SqL K H l (ns.map V.str) ∨ SqT K H l (ns.map V.str)) ∧ ns.length < 4000 ∧
  ∀ p, H p = none → Q (.ref p) (upd H p (SetSO w p (ddS ns)))
theorem cr_setS (hc : X.calm = true) : CallR X (.type "set") (rSetS X.K X.w) := by
  intro pins s σ H vs us Q I r h
  obtain ⟨l, ns, rfl, hq, hl, q⟩ := h
  rw [Vals.ref1 r]
  have hd := I.ok.hd hc
  rcases hq with hq | hq
  · obtain ⟨its, rv, pt, hz⟩ := I.list hq
    refine call_setSLst ns hd pt.isList (strsAre_of rv) (by unfold scanBound; omega) fun h' tk R k => ?_
    have hn : H s.heap.objs.size = none := I.hok.fresh (Nat.le_refl _)
    exact ⟨.ref _, upd H s.heap.objs.size (SetSO X.w s.heap.objs.size (ddS ns)), I.laid (t' := tk) k (Nat.le_refl _) (setSO_new R), rfl, q _ hn⟩
  · obtain ⟨its, rv, pt, hz⟩ := I.tuple hq
    refine call_setSTup ns hd pt (strsAre_of rv) (by unfold scanBound; omega) fun h' tk R k => ?_
    have hn : H s.heap.objs.size = none := I.hok.fresh (Nat.le_refl _)
    exact ⟨.ref _, upd H s.heap.objs.size (SetSO X.w s.heap.objs.size (ddS ns)), I.laid (t' := tk) k (Nat.le_refl _) (setSO_new R), rfl, q _ hn⟩
def rSortedS (w : World) : List V → Hp → VK → Prop := fun vs H Q => ∃ (a : Addr) (L : List Str), vs = [V.ref a] ∧ H a = some (SetSO w a L) ∧ L.length < 4000 ∧ ∀ p, H p = none → Q (.ref p) (upd H p (.lst ((L.mergeSort leS).map V.str)))
theorem vals_isS : ∀ {out : List Value} {l : List Str}, PySem.W.EachIs IsS out l → Vals (l.map V.str) out
  | _, _, .nil => .nil
  | _, _, .cons ⟨t, e⟩ r => .cons (e ▸ ⟨t, rfl⟩) (vals_isS r)
theorem cr_sortedS (hc : X.calm = true) (hu : X.A.units + 200 < cLine) : CallR X (.builtin "sorted") (rSortedS X.w) := by
  intro pins s σ H vs us Q I r h
  obtain ⟨a, L, rfl, ha, h64, q⟩ := h
  have R := setSO_get I ha
  rw [Vals.ref1 r]
  refine sorted_setS R (I.ok.hd hc) h64 (by omega) fun s' p out c k g o hp hg hi => ?_
  have hlen : ((L.mergeSort leS).map V.str).length ≤ sizeLine := by rw [List.length_map, List.length_mergeSort, sizeLine_eq]; omega
  have hn : H p = none := I.hok.fresh hp
  have J : Inv X pins σ (upd H p (.lst ((L.mergeSort leS).map V.str))) { s with heap := s'.heap, gens := s'.gens, drawn := s'.drawn, toks := s'.toks } :=
    I.call (ch := []) (Un.laid k hp hn) (I.hok.laid k hp ⟨hlen, out, c, vals_isS hi, hg⟩) (by rw [g]; exact I.bare) (fun _ z => nomatch z)
  have e : s' = { s with heap := s'.heap, gens := s'.gens, drawn := s'.drawn, toks := s'.toks } := by
    cases s'
    cases s
    cases o
    rfl
  rw [e]
  exact ⟨.ref p, _, J, rfl, q p hn⟩
theorem VRs_strs {K : PySem.W.Frag} {g : Gh} {H : Hp} : ∀ (l : List Str), VRs K g H (l.map fun s => Val.str s.cps.toList) (l.map V.str)
  | [] => VRs.nil
  | s :: l => VRs.cons (by simp only [VR]; exact congrArg V.str (by cases s; rfl)) (VRs_strs l)
noncomputable def sortSet (ys : List (List Nat)) : List Val := ((ddS (ys.map sOf)).mergeSort leS).map fun s => Val.str s.cps.toList
noncomputable def vSortSet (v : Val) (h : Hv) : Res Val := match seqOf h v with
  | some l => match strsOf l with
    | some ys => if ys.length < 4000 then .ok (.lst (sortSet ys)) h else .fail
    | none => .fail
  | none => .fail
theorem ge_sortSet {e : Expr} {d : Den} {p p2 q pos : Pos} (hc : X.calm = true) (hu : X.A.units + 200 < cLine) (he : GE X W e d) (hm : X.mg "sorted" = none) (hm2 : X.mg "set" = none) (hg : Gl X "sorted" := by rfl) (hg2 : Gl X "set" := by rfl)
    (hst2 : starEach [e] X.env = (false, eval e X.env) :: starEach [] X.env := by rfl) (hpl2 : (backTo q (starEach [] X.env)).any (·.1) = false := by rfl)
    (hst : starEach [.Call (.Name "set" p2) [e] [] q] X.env = (false, eval (.Call (.Name "set" p2) [e] [] q) X.env) :: starEach [] X.env := by rfl) (hpl : (backTo pos (starEach [] X.env)).any (·.1) = false := by rfl) :
    GE X W (.Call (.Name "sorted" p) [.Call (.Name "set" p2) [e] [] q] [] pos) (dFn vSortSet d) := by
  refine PE.imp (pe_callB (cr_sortedS hc hu) hg hm PyProof.Rows.boot_sorted (pa_cons (pe_callTy (cr_setS hc) hg2 hm2 PyProof.Rows.boot_set (pa_cons he pa_nil hst2) (by decide +kernel) (by decide +kernel) hst2 hpl2) pa_nil hst) (by decide +kernel) (by decide +kernel) hst hpl) fun σ H Q ⟨g, l, h, S, R, A⟩ => ?_
  refine tG_of S R A fun v h1 g1 H1 x E1 S1 R1 r1 A1 => ?_
  unfold vSortSet at A1
  split at A1
  · rename_i l1 hl
    split at A1
    · rename_i ys hy
      split at A1
      · rename_i hz
        obtain ⟨a, xs, rfl, s, rs⟩ := seqOf_ok R1 r1 hl
        have e := strsOf_ok hy rs
        rw [e] at s
        refine ⟨a, ys.map sOf, rfl, by first | exact s | exact s.symm, by rw [List.length_map]; exact hz, fun p np => ?_⟩
        obtain ⟨E4, R4⟩ := R1.grow (o := SetSO X.w p (ddS (ys.map sOf))) np
        have hl2 : (ddS (ys.map sOf)).length < 4000 := by have := ddS_len (ys.map sOf); rw [List.length_map] at this; omega
        refine ⟨p, _, rfl, upd_same, hl2, fun p' np' => ?_⟩
        obtain ⟨E5, R5⟩ := R4.grow (o := .lst (((ddS (ys.map sOf)).mergeSort leS).map V.str)) np'
        refine A1 g1 _ (.ref p') (E4.trans E5) R5 ?_
        simp only [VR]
        exact ⟨p', _, rfl, R4.fresh np', upd_same, VRs_strs _⟩
      · exact A1.elim
    · exact A1.elim
  · exact A1.elim
end
end GH
set_option Elab.async false
set_option linter.all false
set_option maxRecDepth 100000
set_option maxHeartbeats 1000000
set_option autoImplicit false
/-! steps of plain reasoning, for every law. -/
namespace GH
open PySem
variable [TheWorld]
section
variable {l : GH.Loc} {h h1 : Hv} {P : Post} {rest a b : Stm} {d : Den} {i : Nat} {v : Val} {w u : List Nat} {c : Bool}
theorem asg_ (e : d l h = .ok v h1) (z : sok (rest (l.set i (some v)) h1) P) : sok (sSeq (sAsg d (gName i)) rest l h) P := by
  rw [e_seq, sok_then, e_asg, e]
  exact z
theorem ret_ (z : ok (d l h) P.rt) : sok (sSeq (sRet d) rest l h) P := by
  rw [e_seq, sok_then, e_ret, sok_to]
  exact z
theorem skip_ (hl : l[i]? = some (some (.str u))) (hne : u ≠ w) (z : sok (rest l h) P) : sok (sSeq (sIf (dB (dBin vEq (dVar i) (dC (.str w)))) a sNext) rest l h) P := by
  rw [e_seq, sok_then]
  simp only [e_if, e_b, e_bin, dVar, hl, Res.bind_ok, e_c, vEq_str, resB_bl, Res.to_ok, hne, decide_false, Bool.false_eq_true, if_false, e_next, sok_nx]
  exact z
theorem hit_ (hl : l[i]? = some (some (.str w))) (z : ok (d l h) P.rt) : sok (sSeq (sIf (dB (dBin vEq (dVar i) (dC (.str w)))) (sSeq (sRet d) sNext) sNext) rest l h) P := by
  rw [e_seq, sok_then]
  simp only [e_if, e_b, e_bin, dVar, hl, Res.bind_ok, e_c, vEq_str, resB_bl, Res.to_ok, decide_true, if_true]
  exact ret_ z
theorem if_ {t : DenG Bool} (e : t l h = .ok c h) (z1 : c = true → sok (a l h) { P with nx := fun l h => sok (rest l h) P }) (z2 : c = false → sok (rest l h) P) : sok (sSeq (sIf t a sNext) rest l h) P := by
  rw [e_seq, sok_then]
  simp only [e_if, e, Res.to_ok]
  cases c with
  | true => simpa using z1 rfl
  | false => simpa using z2 rfl
/-- a test that may call -/
theorem ifk_ {t : DenG Bool} (e : ok (t l h) fun c h1 => (c = true → sok (a l h1) { P with nx := fun l h => sok (rest l h) P }) ∧ (c = false → sok (rest l h1) P)) : sok (sSeq (sIf t a sNext) rest l h) P := by
  rw [e_seq, sok_then, e_if, sok_to]
  refine ok_imp e fun c h1 z => ?_
  cases c with
  | true => simpa using z.1 rfl
  | false => simpa using z.2 rfl
theorem asgk_ (z : ok (d l h) fun v h1 => sok (rest (l.set i (some v)) h1) P) : sok (sSeq (sAsg d (gName i)) rest l h) P := by
  rw [e_seq, sok_then, e_asg, sok_to]
  exact z
theorem asgq_ (Q : Val → Hv → Prop) (a : ok (d l h) Q) (z : ∀ v h1, Q v h1 → sok (rest (l.set i (some v)) h1) P) : sok (sSeq (sAsg d (gName i)) rest l h) P := asgk_ (ok_imp a z)
theorem sok_seqo (R : GH.Loc → Hv → Prop) (h1 : ∀ R' : GH.Loc → Hv → Prop, (∀ l h, R l h → R' l h) → sok (a l h) { P with nx := R' }) (h2 : ∀ l h, R l h → sok (b l h) P) : sok (sSeq a b l h) P := sok_seq R (h1 R fun _ _ z => z) h2
theorem asgo_ (Q : Val → Hv → Prop) (a : ∀ Q' : Val → Hv → Prop, (∀ v h, Q v h → Q' v h) → ok (d l h) Q') (z : ∀ v h1, Q v h1 → sok (rest (l.set i (some v)) h1) P) : sok (sSeq (sAsg d (gName i)) rest l h) P := asgq_ Q (a Q fun _ _ z => z) z
end
theorem forL_invo {t : Tg} {b : Stm} {s : Src} {P : Post} (I : List Val → GH.Loc → Hv → Prop)
    (step : ∀ I' : List Val → GH.Loc → Hv → Prop, (∀ x l h, I x l h → I' x l h) → ∀ x r l h, I (x :: r) l h → srcOk s h ∧ tok (t x l h) fun l1 h1 => sok (b l1 h1) { nx := fun l2 h2 => I' r l2 h2, ct := fun l2 h2 => I' r l2 h2, bk := P.nx, rt := P.rt })
    (done : ∀ l h, I [] l h → srcOk s h ∧ P.nx l h) (items : List Val) (l : GH.Loc) (h : Hv) (i : I items l h) : sok (forL t b s items l h) P := forL_inv I (step I fun _ _ _ z => z) done items l h i
theorem lcL_invo {t : Tg} {c : DenG Bool} {e : Den} {s : Src} {P : List Val → Hv → Prop} (I : List Val → List Val → Hv → Prop) {l : GH.Loc}
    (step : ∀ I' : List Val → List Val → Hv → Prop, (∀ x l h, I x l h → I' x l h) → ∀ x r acc h, I (x :: r) acc h → srcOk s h ∧ tok (t x l h) fun l1 h1 => ok (c l1 h1) fun b h2 => if b then ok (e l1 h2) fun v h3 => I' r (acc ++ [v]) h3 else I' r acc h2)
    (done : ∀ acc h, I [] acc h → srcOk s h ∧ P acc h) (items acc : List Val) (h : Hv) (i : I items acc h) : ok (lcL t c e s items acc l h) P := lcL_inv I (step I fun _ _ _ z => z) done items acc h i
@[simp] theorem e_isi (t : Ty) (d : Den) (l : GH.Loc) (h : Hv) : dIsi t d l h = (d l h).bind fun v h1 => match tyOf h1 v with
  | some a => .ok (.bl (isiB a t)) h1
  | none => .fail := nrfl rfl
theorem vAll_bls (l : List Bool) (h : Hv) : vAll (.lst (l.map .bl)) h = .ok (.bl (l.all id)) h := by
  have : blsOf (l.map .bl) = some l := by
    induction l with
    | nil => rfl
    | cons a l ih => simp [blsOf, ih]
  simp [vAll, lstOf, this]
theorem rng_ok {j : Nat} {h : Hv} (h1 : j ≤ 16777216) : vRange1 (.int (j : Int)) h = .ok (rangeL 0 j, none) h := by
  have e : (2 : Int) ^ 62 = 4611686018427387904 := by decide
  unfold vRange1
  rw [e]
  dsimp only
  rw [if_pos ⟨by omega, by omega⟩]
  simp
theorem rng_mem {n : Nat} {v : Val} (m : v ∈ rangeL 0 n) : ∃ j : Nat, j < n ∧ v = .int j := by
  obtain ⟨j, hj, rfl⟩ := List.mem_map.mp m
  exact ⟨j, List.mem_range.mp hj, by simp⟩
theorem nth_nat {α : Type} {l : List α} {j : Nat} {v : α} (e : l[j]? = some v) : nth l (j : Int) = some v := by
  simp [nth, e]
end GH
set_option Elab.async false
set_option linter.all false
set_option maxRecDepth 100000
set_option maxHeartbeats 1000000
set_option autoImplicit false
/-! plain lemmas for every law. -/
namespace GH
open PySem
variable [TheWorld]
section
variable (a b c d : Val) (l : List Val) (h : Hv)
@[simp] theorem t0 : vIx (.tup (a :: l)) (.int 0) h = .ok a h := nrfl rfl
@[simp] theorem t1 : vIx (.tup (a :: b :: l)) (.int 1) h = .ok b h := nrfl rfl
@[simp] theorem t2 : vIx (.tup (a :: b :: c :: l)) (.int 2) h = .ok c h := nrfl rfl
@[simp] theorem t3 : vIx (.tup (a :: b :: c :: d :: l)) (.int 3) h = .ok d h := nrfl rfl
@[simp] theorem m1_3 : vIx (.tup [a, b, c]) (.int (-1)) h = .ok c h := nrfl rfl
@[simp] theorem m2_3 : vIx (.tup [a, b, c]) (.int (-2)) h = .ok b h := nrfl rfl
@[simp] theorem m1_4 : vIx (.tup [a, b, c, d]) (.int (-1)) h = .ok d h := nrfl rfl
@[simp] theorem m2_4 : vIx (.tup [a, b, c, d]) (.int (-2)) h = .ok c h := nrfl rfl
end
@[simp] theorem e_neg (i : Int) (l : GH.Loc) (h : Hv) : dNeg (dC (.int i)) l h = .ok (.int (-i)) h := nrfl rfl
@[simp] theorem e_osome (d : Den) (l : GH.Loc) (h : Hv) : oSome d l h = (d l h).bind fun v h1 => match v with
  | .int i => .ok (some i) h1
  | _ => .fail := nrfl rfl
@[simp] theorem e_andv (a b : Den) (l : GH.Loc) (h : Hv) : dAndV a b l h = (a l h).bind fun v h1 => match v with
  | .bl true => b l h1
  | .bl false => .ok (.bl false) h1
  | _ => .fail := by
  unfold dAndV
  cases a l h with
  | ok v h1 => cases v <;> first | rfl | (rename_i b; cases b <;> rfl)
  | exc e h1 => rfl
  | fail => rfl
@[simp] theorem e_notv (a : Den) (l : GH.Loc) (h : Hv) : dNotV a l h = (a l h).bind fun v h1 => match v with
  | .bl c => .ok (.bl (!c)) h1
  | _ => .fail := nrfl rfl
@[simp] theorem e_orv (a b : Den) (l : GH.Loc) (h : Hv) : dOrV a b l h = (a l h).bind fun v h1 => match v with
  | .bl true => .ok (.bl true) h1
  | .bl false => b l h1
  | _ => .fail := by
  unfold dOrV
  cases a l h with
  | ok v h1 => cases v <;> first | rfl | (rename_i b; cases b <;> rfl)
  | exc e h1 => rfl
  | fail => rfl
@[simp] theorem e_chain (f f' : Val → Val → Hv → Res Val) (da db dc : Den) (l : GH.Loc) (h : Hv) : dChain f f' da db dc l h = (da l h).bind fun v h1 => (db l h1).bind fun u h2 => (f v u h2).bind fun z h3 => match z with
  | .bl true => (dc l h3).bind fun w h4 => f' u w h4
  | .bl false => .ok (.bl false) h3
  | _ => .fail := nrfl rfl
theorem add_lst {a b : List Val} {h : Hv} (e : a.length + b.length ≤ 16777216) : vAdd (.lst a) (.lst b) h = .ok (.lst (a ++ b)) h := by
  simp [vAdd, lstOf, lineN, e]
theorem add_tup {a b : List Val} {h : Hv} (e : a.length + b.length ≤ 16777216) : vAdd (.tup a) (.tup b) h = .ok (.tup (a ++ b)) h := by
  simp [vAdd, lineN, e]
theorem vRange1_ok {j : Int} {h : Hv} (h0 : 0 ≤ j) (h1 : j ≤ 16777216) : vRange1 (.int j) h = .ok (rangeL 0 j.toNat, none) h := by
  have e : (2 : Int) ^ 62 = 4611686018427387904 := by decide
  unfold vRange1
  rw [e]
  dsimp only
  rw [if_pos ⟨by omega, h1⟩]
theorem vRange2_ok {a b : Int} {h : Hv} (h0 : -1000000 ≤ a) (h3 : a ≤ 1000000) (h1 : b ≤ 16777216) (h2 : a ≤ b) (h4 : b - a ≤ 16777216) : vRange2 (.int a) (.int b) h = .ok (rangeL a (b - a).toNat, none) h := by
  have e : (2 : Int) ^ 62 = 4611686018427387904 := by decide
  unfold vRange2
  rw [e]
  dsimp only
  rw [if_pos (by constructor <;> first | omega | (constructor <;> omega))]
theorem cut_take {α : Type} (l : List α) (n : Nat) : cut l none (some (n : Int)) = l.take n := by
  unfold cut
  rw [HT.sIx_nat, HT.sIx_none]
  simp only [List.drop_zero, Nat.sub_zero]
  by_cases h : n ≤ l.length
  · rw [Nat.min_eq_left h]
  · rw [Nat.min_eq_right (by omega), List.take_of_length_le (Nat.le_refl _), List.take_of_length_le (by omega)]
theorem cut_drop {α : Type} (l : List α) (n : Nat) : cut l (some (n : Int)) none = l.drop n := by
  unfold cut
  rw [HT.sIx_nat, HT.sIx_none]
  by_cases h : n ≤ l.length
  · rw [Nat.min_eq_left h]
    exact List.take_of_length_le (by simp)
  · rw [Nat.min_eq_right (by omega), List.drop_of_length_le (Nat.le_refl _), List.drop_of_length_le (by omega)]
    simp
section
variable (h : Hv) (A B C : Ob)
@[simp] theorem g0 : (h ++ [A, B])[h.length]? = some A := by simp
@[simp] theorem g1 : (h ++ [A, B])[h.length + 1]? = some B := by
  rw [List.getElem?_append_right (by omega)]; simp
@[simp] theorem s0 : (h ++ [A, B]).set h.length C = h ++ [C, B] := by simp
@[simp] theorem s1 : (h ++ [A, B]).set (h.length + 1) C = h ++ [A, C] := by
  rw [List.set_append_right _ _ (by omega)]; simp
end
theorem append_ref {i : Nat} {l : List Val} {v : Val} {h : Hv} (e : h[i]? = some (.lst l)) (hl : l.length < 16777216) : vAppend (.ref i) v h = .ok .non (h.set i (.lst (l ++ [v]))) := by
  simp [vAppend, e, lineN, hl]
theorem pop_ref {i : Nat} {l : List Val} {v : Val} {h : Hv} (e : h[i]? = some (.lst (l ++ [v]))) : vPop (.ref i) h = .ok v (h.set i (.lst l)) := by
  simp [vPop, e]
theorem isLst_ref {i : Nat} {l : List Val} {h : Hv} (e : h[i]? = some (.lst l)) : isLst h (.ref i) = true := by
  simp [isLst, lstOf, e]
theorem tru_ref {i : Nat} {l : List Val} {h : Hv} (e : h[i]? = some (.lst l)) : vTru (.ref i) h = .ok (!l.isEmpty) h := by
  simp [vTru, seqOf, lstOf, e]
@[simp] theorem tru_tup {l : List Val} {h : Hv} : vTru (.tup l) h = .ok (!l.isEmpty) h := by
  simp [vTru, seqOf]
theorem len_ref {i : Nat} {l : List Val} {h : Hv} (e : h[i]? = some (.lst l)) : vLen (.ref i) h = .ok (.int l.length) h := by
  simp [vLen, seqOf, lstOf, e]
theorem pv_inj {p q : List Int} (h : pv p = pv q) : p = q := by
  have h : p.map Val.int = q.map Val.int := by simpa using h
  exact List.map_inj_right (fun a b e => by simpa using e) |>.mp h
theorem unpv : ∀ l : List Val, (∀ v ∈ l, ∃ p, v = pv p) → ∃ L : List (List Int), l = L.map pv
  | [], _ => ⟨[], rfl⟩
  | v :: l, h => by
    obtain ⟨p, rfl⟩ := h v (List.mem_cons_self ..)
    obtain ⟨L, rfl⟩ := unpv l fun v hv => h v (List.mem_cons_of_mem _ hv)
    exact ⟨p :: L, rfl⟩
theorem pds_ints (p : List Int) : pds (p.map .int) = p.map PyData.int := by
  induction p with
  | nil => rfl
  | cons a p ih => simp only [List.map_cons, pds, pd, ih]
theorem alike_pv (p q : List Int) : PySem.W.alike (pd (pv p)) (pd (pv q)) = true := by
  simp only [pd, PySem.W.alike, pds_ints, PySem.W.alike_ints]
theorem mem_pv {p : List Int} {l : List (List Int)} : pv p ∈ l.map pv ↔ p ∈ l := by
  constructor
  · intro h
    obtain ⟨q, hq, e⟩ := List.mem_map.mp h
    rw [← pv_inj e]; exact hq
  · exact fun h => List.mem_map.mpr ⟨p, h, rfl⟩
theorem sorted_pv {l : List (List Int)} (hd : l = [] ∨ ∃ r, l = [] :: r) (h : Hv) : ∃ L : List (List Int), (∀ q, q ∈ L ↔ q ∈ l) ∧ L.length = l.length ∧ vSorted (.lst (l.map pv)) h = .ok (.lst (L.map pv)) h := by
  have ok : sortOk (l.map pv) = true := by
    unfold sortOk
    have h1 := okVs_pvs l
    have h2 := dpVs_pvs l
    have h3 : ((l.map pv).all fun a => (l.map pv).all fun b => PySem.W.alike (pd a) (pd b)) = true := by
      refine List.all_eq_true.mpr fun a ha => List.all_eq_true.mpr fun b hb => ?_
      obtain ⟨p, _, rfl⟩ := List.mem_map.mp ha
      obtain ⟨q, _, rfl⟩ := List.mem_map.mp hb
      exact alike_pv p q
    rw [h1, h3]
    have h4 : decide (dpVs (l.map pv) ≤ 190) = true := decide_eq_true (by omega)
    rw [h4]
    rcases hd with rfl | ⟨r, rfl⟩
    · rfl
    · simp
      exact .inr rfl
  have perm : (sortV (l.map pv)).Perm (l.map pv) := List.mergeSort_perm _ _
  obtain ⟨L, hL⟩ := unpv (sortV (l.map pv)) fun v hv => by
    obtain ⟨p, _, e⟩ := List.mem_map.mp (perm.mem_iff.mp hv)
    exact ⟨p, e.symm⟩
  refine ⟨L, fun q => ?_, ?_, ?_⟩
  · rw [← mem_pv (l := l), ← perm.mem_iff, hL, mem_pv]
  · have := perm.length_eq
    rw [hL] at this
    simpa using this
  · simp [vSorted, lstOf, ok, hL]
/-! comprehensions whose parts are known and change nothing -/
theorem lcL_eq {t : Tg} {c : DenG Bool} {e : Den} {s : Src} {l : GH.Loc} {h : Hv} (f : Val → Bool) (g : Val → Val) (hs : srcOk s h) : ∀ (items acc : List Val), (∀ x ∈ items, ∃ l1, t x l h = .ok l1 h ∧ c l1 h = .ok (f x) h ∧ (f x = true → e l1 h = .ok (g x) h)) → lcL t c e s items acc l h = .ok (acc ++ (items.filter f).map g) h
  | [], acc, _ => by simp [lcL, hs]
  | x :: r, acc, q => by
    obtain ⟨l1, e1, e2, e3⟩ := q x (List.mem_cons_self ..)
    have ih := fun acc => lcL_eq (l := l) f g hs r acc fun y hy => q y (List.mem_cons_of_mem _ hy)
    simp only [lcL, if_pos hs, e1, e2]
    cases ef : f x with
    | true => simp [e3 ef, ih, ef]
    | false => simp [ih, ef]
theorem lcL_map {t : Tg} {e : Den} {s : Src} {l : GH.Loc} {h : Hv} (g : Val → Val) (hs : srcOk s h) (items acc : List Val) (q : ∀ x ∈ items, ∃ l1, t x l h = .ok l1 h ∧ e l1 h = .ok (g x) h) : lcL t dYes e s items acc l h = .ok (acc ++ items.map g) h := by
  rw [lcL_eq (fun _ => true) g hs items acc fun x hx => ?_]
  · congr 2
    rw [List.filter_eq_self.mpr fun _ _ => rfl]
  · obtain ⟨l1, e1, e2⟩ := q x hx
    exact ⟨l1, e1, rfl, fun _ => e2⟩
theorem lcB_map {t : Tg} {e : Den} {s : Src} {l : GH.Loc} {h : Hv} (g : Val → Val) (hs : srcOk s h) : ∀ (items acc : List Val), (∀ x ∈ items, ∃ l1, t x l h = .ok l1 h ∧ e l1 h = .ok (g x) h) → acc.length + items.length ≤ 16777216 → lcB t dYes e s items acc l h = .ok (acc ++ items.map g) h
  | [], acc, _, _ => by simp [lcB, hs]
  | x :: r, acc, q, n => by
    obtain ⟨l1, e1, e2⟩ := q x (List.mem_cons_self ..)
    simp only [List.length_cons] at n
    have hl : acc.length < lineN := by unfold lineN; omega
    simp only [lcB, if_pos hs, e1, e_yes, if_true, e2, if_pos hl]
    rw [lcB_map g hs r (acc ++ [g x]) (fun y hy => q y (List.mem_cons_of_mem _ hy)) (by simp; omega)]
    simp
theorem lc2L_map {t t1 : Tg} {di1 : DenG Src} {e : Den} {vs1 : List Nat} {s : Src} {l : GH.Loc} {h : Hv} (F : Val → List Val) (hs : srcOk s h) : ∀ (items acc : List Val), (∀ x ∈ items, ∃ l1 s1, t x l h = .ok l1 h ∧ di1 l1 h = .ok s1 h ∧ ∀ acc : List Val, acc.length + (F x).length ≤ 16777216 → lcB t1 dYes e s1 s1.1 acc (wipeL l1 vs1) h = .ok (acc ++ F x) h) →
    acc.length + (items.flatMap F).length ≤ 16777216 → lc2L t dYes di1 t1 dYes e vs1 s items acc l h = .ok (acc ++ items.flatMap F) h
  | [], acc, _, _ => by simp [lc2L, hs]
  | x :: r, acc, q, n => by
    obtain ⟨l1, s1, e1, e2, e3⟩ := q x (List.mem_cons_self ..)
    simp only [List.flatMap_cons, List.length_append] at n
    simp only [lc2L, if_pos hs, e1, e_yes, if_true, e2]
    rw [e3 acc (by omega)]
    simp only [Res.bind_ok]
    rw [lc2L_map F hs r (acc ++ F x) (fun y hy => q y (List.mem_cons_of_mem _ hy)) (by rw [List.length_append]; omega)]
    simp
theorem dcL_map {t : Tg} {ek e : Den} {s : Src} {l : GH.Loc} {h : Hv} (g : Val → Val × Val) (hs : srcOk s h) : ∀ (items : List Val) (acc : List (Val × Val)), (∀ x ∈ items, ∃ l1, t x l h = .ok l1 h ∧ ek l1 h = .ok (g x).1 h ∧ e l1 h = .ok (g x).2 h ∧ (keyOf (g x).1).isSome = true) → dcL t dYes ek e s items acc l h = .ok ((items.map g).foldl (fun a p => dPut a p.1 p.2) acc) h
  | [], acc, _ => by simp [dcL, hs]
  | x :: r, acc, q => by
    obtain ⟨l1, e1, e2, e3, e4⟩ := q x (List.mem_cons_self ..)
    obtain ⟨kk, e5⟩ := Option.isSome_iff_exists.mp e4
    simp only [dcL, if_pos hs, e1, e_yes, if_true, e2, e3, e5]
    rw [dcL_map g hs r _ fun y hy => q y (List.mem_cons_of_mem _ hy)]
    rfl
end GH
set_option Elab.async false
set_option linter.all false
set_option maxRecDepth 100000
set_option maxHeartbeats 4000000
set_option autoImplicit false
/-! sorted(d) of text keys, d.pop(k, x), xs.reverse(), str(n), except C as e: return A if isinstance(e, D) else B. -/
namespace GH
open PySem PySem.Spec PyProof.Rows L2
variable [TheWorld]
theorem mkT_ok {vs : List Val} {h : Hv} (e : vs.length ≤ 16777216) : mkTup vs h = .ok (.tup vs) h := by simp [mkTup, lineN, e]
theorem mkL_ok {vs : List Val} {h : Hv} (e : vs.length ≤ 16777216) : mkLst vs h = .ok (.lst vs) h := by simp [mkLst, lineN, e]
theorem leS_trans (a b c : Str) (h1 : leS a b = true) (h2 : leS b c = true) : leS a c = true := by
  simp only [leS, decide_eq_true_eq] at *
  exact List.le_trans h1 h2
theorem leS_total (a b : Str) : (leS a b || leS b a) = true := by
  simp only [leS, Bool.or_eq_true, decide_eq_true_eq]
  exact List.le_total _ _
theorem leS_anti {a b : Str} (h1 : leS a b = true) (h2 : leS b a = true) : a = b := by
  simp only [leS, decide_eq_true_eq] at h1 h2
  have := List.le_antisymm h1 h2
  cases a; cases b
  simp only [Str.mk.injEq]
  exact Array.toList_inj.mp this
theorem sortS_of {ys ks : List Str} (p : ys.Perm ks) (h : ys.Pairwise fun a b => leS a b = true) : ys = ks.mergeSort leS :=
  List.Perm.eq_of_pairwise (le := fun a b => leS a b = true) (fun _ _ _ _ h1 h2 => leS_anti h1 h2) h (List.pairwise_mergeSort leS_trans leS_total ks) (p.trans (List.mergeSort_perm ks leS).symm)
theorem lt_cps {a b : Str} (h : ltCps b.cps.toList a.cps.toList = false) : leS a b = true := by
  rw [PyProof.Rows.ltCps_eq] at h
  simp only [leS, decide_eq_true_eq]
  exact List.not_lt.mp (by simpa using h)
theorem rising_pw : ∀ {ss : List Str} {p : Str}, risingS p ss = true → (p :: ss).Pairwise fun a b => leS a b = true
  | [], p, _ => List.pairwise_singleton _ _
  | x :: r, p, h => by
    simp only [risingS, Bool.and_eq_true, Bool.not_eq_true'] at h
    have ih := rising_pw h.2
    refine List.pairwise_cons.mpr ⟨fun b hb => ?_, ih⟩
    have h1 := lt_cps h.1
    rcases List.mem_cons.mp hb with rfl | hb
    · exact h1
    · exact leS_trans _ _ _ h1 ((List.pairwise_cons.mp ih).1 b hb)
theorem sorted_pw {ys : List Str} (h : sortedS ys = true) : ys.Pairwise fun a b => leS a b = true := by
  cases ys with
  | nil => exact .nil
  | cons x r => exact rising_pw h
section
variable {X : Cx} {W : WX}
/-- sorted(d), the keys texts -/
noncomputable def sortStr (ys : List (List Nat)) : List Val := ((ys.map sOf).mergeSort leS).map fun s => Val.str s.cps.toList
noncomputable def vSortDic (v : Val) (h : Hv) : Res Val := match dicOf h v with
  | some l => match strsOf (l.map (·.1)) with
    | some ys => if ys.length < 64 then .ok (.lst (sortStr ys)) h else .fail
    | none => .fail
  | none => .fail
theorem keys_strs {K : PySem.W.Frag} {g : Gh} {H : Hp} : ∀ {l : List (Val × Val)} {ks : List (Key × V)} {ys : List (List Nat)}, DR K g H l ks → strsOf (l.map (·.1)) = some ys → ks.map (·.1) = (ys.map sOf).map Sum.inr
  | [], ks, ys, r, e => by
    simp only [List.map_nil, strsOf, Option.some.injEq] at e
    subst e
    rw [r.nilInv]
    rfl
  | p :: l, ks, ys, r, e => by
    obtain ⟨q, ks', rfl, e1, _, t⟩ := r.inv
    simp only [List.map_cons] at e
    cases hp : p.1 with
    | str s =>
      rw [hp] at e e1
      simp only [strsOf, Option.map_eq_some_iff] at e
      obtain ⟨ys', e2, rfl⟩ := e
      simp only [keyOf, Option.some.injEq] at e1
      simp only [List.map_cons, keys_strs t e2, ← e1]
    | _ => rw [hp] at e; simp [strsOf] at e
theorem c1_sortDic (hc : X.calm = true) : C1 X (.builtin "sorted") vSortDic := ⟨_, call_sortedD hc, fun W g H h σ v x Q R r A => by
  unfold vSortDic at A
  split at A
  · rename_i l hl
    split at A
    · rename_i ys hy
      split at A
      · rename_i hz
        obtain ⟨i, a, ks, rfl, rfl, hm, hi, ha, d⟩ := dicOf_ok R r hl
        refine ⟨a, ks, ys.map sOf, rfl, .inl ha, keys_strs d hy, by rw [List.length_map]; exact hz, fun zs p pm so np => ?_⟩
        obtain ⟨E5, R5⟩ := R.grow (o := .lst (zs.map V.str)) np
        refine A g _ (.ref p) E5 R5 ?_
        simp only [VR]
        refine ⟨p, _, rfl, R.fresh np, upd_same, ?_⟩
        rw [sortS_of pm (sorted_pw so)]
        exact VRs_strs _
      · exact A.elim
    · exact A.elim
  · exact A.elim⟩
/-- str(n) -/
def vStrI (v : Val) (h : Hv) : Res Val := match v with
  | .int i => if i.natAbs.log2 < 1920 then .ok (.str (Str.ofString (toString i)).cps.toList) h else .fail
  | _ => .fail
theorem c1_str : C1 X (.type "str") vStrI := ⟨_, call_str_int, fun W g H h σ v x Q R r A => by
  unfold vStrI at A
  split at A
  · split at A
    · rename_i hz
      simp only [VR] at r
      subst r
      refine ⟨_, rfl, hz, A g H _ Ext.refl R ?_⟩
      simp only [VR]
      exact congrArg V.str (by generalize Str.ofString _ = s; cases s; rfl)
    · exact A.elim
  · exact A.elim⟩
/-- x.reverse() -/
def vReverse (x : Val) (h : Hv) : Res Val := match x with
  | .ref i => match h[i]? with
    | some (.lst l) => .ok .non (h.set i (.lst l.reverse))
    | _ => .fail
  | _ => .fail
theorem VRs.rev {K : PySem.W.Frag} {g : Gh} {H : Hp} : ∀ {l : List Val} {xs : List V}, VRs K g H l xs → VRs K g H l.reverse xs.reverse
  | [], xs, r => by rw [show xs = [] from r]; exact VRs.nil
  | v :: l, xs, r => by
    obtain ⟨x, r', rfl, rx, rr⟩ := r
    rw [List.reverse_cons, List.reverse_cons]
    exact (VRs.rev rr).append (.one rx)
theorem ge_reverse {o : Expr} {dx : Den} {apos cpos : Pos} (ho : GE X W o dx) (hbase : attributeBase o "reverse" X.env (eval o X.env) = eval o X.env := by rfl) (hline : (apos.endLine == cpos.line) = true := by rfl) : GE X W (.Call (.Attribute o "reverse" apos) [] [] cpos) (dMeth0 isLst vReverse dx) :=
  ge_meth0 PySem.F.plainAttrs_list PySem.F.slot_list_reverse PySem.F.type_list_reverse mt_reverse (fun g H h v x R r e => lst_ty R r e) (fun W g H h σ v x Q R rv A => by
    unfold vReverse at A
    split at A
    · rename_i i
      split at A
      · rename_i l hl
        simp only [VR] at rv
        obtain ⟨a, rfl, hm⟩ := rv
        obtain ⟨xs, e1, rs⟩ := ref_at R hl hm
        obtain ⟨E, R1⟩ := R.write (ob := .lst l.reverse) (o' := .lst xs.reverse) hm fun E => ⟨_, upd_same, (rs.ext R E).rev⟩
        exact ⟨a, xs, rfl, rfl, e1, A g _ .non E R1 (by simp only [VR])⟩
      · exact A.elim
    · exact A.elim) ho hbase hline
/-- d.pop(k, x) -/
def dPop2 (o e f : Den) : Den := fun l h => (o l h).bind fun x h1 => if isDic h1 x = true then (e l h1).bind fun k h2 => (f l h2).bind fun z h3 => (match x with
  | .ref i => (match h3[i]?, keyOf k with
    | some (.dic m), some _ => (match dGet m k with
      | some v => .ok v (h3.set i (.dic (dDrop m k)))
      | none => .ok z h3)
    | _, _ => .fail)
  | _ => .fail) else .fail
theorem ge_pop2 {o e f : Expr} {dx de df : Den} {apos cpos : Pos} (ho : GE X W o dx) (he : GE X W e de) (hf : GE X W f df) (m : M2 X o "pop" apos e f cpos := by exact ⟨rfl, rfl, rfl, rfl⟩) : GE X W (.Call (.Attribute o "pop" apos) [e, f] [] cpos) (dPop2 dx de df) := by
  refine PE.imp (pe_dpop2 ho he hf m) fun σ H Q ⟨g, l, h, S, R, A⟩ => ?_
  refine tG_of S R A fun v h1 g1 H1 x E S1 R1 r1 A1 => ?_
  split at A1
  · rename_i ok1
    obtain ⟨a, rfl, hd⟩ := dic_is R1 r1 ok1
    refine ⟨a, rfl, hd, ?_⟩
    refine tG_of S1 R1 A1 fun u h2 g2 H2 y E2 S2 R2 r2 A2 => ?_
    refine tG_of S2 R2 A2 fun w h3 g3 H3 z E3 S3 R3 r3 A3 => ?_
    split at A3
    · rename_i i
      split at A3
      · rename_i mm kk hl hk
        have rv := (r1.ext R1 E2).ext R2 E3
        simp only [VR] at rv
        obtain ⟨a', e1, hm⟩ := rv
        cases e1
        obtain ⟨ks, ha, d⟩ := ref_at R3 hl hm
        have ry := r2.ext R2 E3
        obtain ⟨d1, d2⟩ := DR.get hk d
        obtain ⟨E4, R4⟩ := R3.write (ob := .dic (dDrop mm u)) (o' := .dK (dropK ks kk)) hm fun E => ⟨_, upd_same, DR.drop hk ⟨d.1, d.2.ext R3 E⟩⟩
        refine ⟨ks, kk, ha, key_V ry hk, fun v0 hv0 => ?_, fun hn => ?_⟩
        · cases e : dGet mm u with
          | none => rw [d2 e] at hv0; cases hv0
          | some v1 =>
            rw [e] at A3
            obtain ⟨x1, e2, r4⟩ := d1 v1 e
            rw [e2] at hv0
            cases hv0
            exact A3 g3 _ _ E4 R4 (r4.ext R3 E4)
        · cases e : dGet mm u with
          | some v1 =>
            obtain ⟨x1, e2, r4⟩ := d1 v1 e
            rw [e2] at hn
            cases hn
          | none =>
            rw [e] at A3
            exact A3 g3 H3 _ Ext.refl R3 r3
      · exact A3.elim
    · exact A3.elim
  · exact A1.elim
end
end GH
set_option Elab.async false
set_option linter.all false
set_option maxRecDepth 100000
set_option maxHeartbeats 4000000
set_option autoImplicit false
/-! try: body; except C as e: return A if isinstance(e, D) else B. -/
namespace GH
open PySem PySem.Spec PyProof.Rows L2
variable [TheWorld]
section
variable {X : Cx} {W : WX}
/-- only C is raised; its instances are (not) instances of D -/
def sTryIs (i : Nat) (c : List Nat) (ans : Bool) (body : Stm) (A B : List Nat) : Stm := fun l h => match body l h with
  | .exc e l1 h1 => if e.c = c ∧ e.fs = [] ∧ i < l1.length then .rt (.str (if ans then A else B)) h1 else .fail
  | r => r
theorem gs_tryIs (c : List Nat) (ans : Bool) (A B : List Nat) {i : Nat} {x y nm xA xB xI : Str} {cy : Value} {body : List Stmt} {np np2 np3 np4 pos pos' pos2 pos3 pos4 rp cp : Pos} {j1 j2 : Nat} {db : Stm}
    (hs : X.stack = X.env :: X.outer) (hf : X.env.frame = some X.env.locals) (hN : X.N.Nodup) (hi : X.N[i]? = some nm) (hln : X.env.kindOf nm = some .local)
    (hc : Names X x (.ref (clsA X.K c))) (tk : Takes X W) (hm : PySem.W.exmOne X.K (.ref (clsA X.K c)) (.ref (clsA X.K c)) = some true) (EC : ExcC X.K (clsA X.K c))
    (hk : PySem.W.kitOne X.K (.ref (clsA X.K c)) cy = some ans) (hmy : X.mg y = some cy) (hcy : ∃ a, cy = .ref a) (hfi : X.mg xI = none) (hgi : Gl X xI) (hgy : Gl X y)
    (hb : ∀ (W' : WX) (pn : List (Addr × Obj)) (xe : Value → Shared → Prop), Takes (X.tr pn xe) W' → PassesOwn (model X.prog X.w) X.A X.env xe → GSs (X.tr pn xe) W' body db)
    (hdy : (y == ("__debug__" : Str)) = false := by decide +kernel) (hdn : (nm == ("__debug__" : Str)) = false := by decide +kernel) (hdc : (nm == ("__classdict__" : Str)) = false := by decide +kernel)
    (hs1 : starEach [.Name nm np2, .Name y np3] X.env = (false, eval (.Name nm np2) X.env) :: starEach [.Name y np3] X.env := by rfl) (hs2 : starEach [.Name y np3] X.env = (false, eval (.Name y np3) X.env) :: starEach [] X.env := by rfl)
    (hpl : (backTo cp (starEach [.Name y np3] X.env)).any (·.1) = false := by rfl) (hA : xA = sOf A := by rfl) (hB : xB = sOf B := by rfl) (hI : xI = ("isinstance" : Str) := by rfl) :
    GS X W (.Try body [.ExceptHandler (some (.Name x np)) (some nm) [.Return (some (.IfExp (.Call (.Name xI np4) [.Name nm np2, .Name y np3] [] cp) (.Constant (.str xA) j1 pos2) (.Constant (.str xB) j2 pos3) rp)) pos4] pos'] [] [] pos) (sTryIs i c ans db A B) := by
  subst hA hB hI
  refine PS.imp (ps_try_as (i := i) (tb := fun W' => tS X.K W' db)
    (ts := fun a cls d => fun D σ H => cls = .ref (clsA X.K c) ∧ d = none ∧ σ[i]? = some (some (.ref a)) ∧ D.rt (.str (sOf (if ans then A else B))) H) hs hf hN hi hln hc tk hb (fun a oe cls d pn hz hfd => ?_)) fun D σ H ⟨g, l, h, S, R, AA⟩ => ?_
  · refine ⟨fun pins s σ H D I ⟨e1, e2, e3, q⟩ => ?_⟩
    subst e1 e2
    obtain ⟨ay, rfl⟩ := hcy
    have hy : PE (X.suite a ((a, oe) :: pn)) (.Name y np3) (tC (.ref ay)) := pe_glob hgy hmy rfl hdy
    have hv : PE (X.suite a ((a, oe) :: pn)) (.Name nm np2) (tVar i) := pe_var hi (.inl hln) hdn hdc
    have ht := pe_callB (X := X.suite a ((a, oe) :: pn)) (p := np4) (pos := cp) (call_isE (pn := pn) EC hz hfd) hgi hfi (by decide +kernel) (pa_cons hv (pa_cons hy pa_nil hs2) hs1) (by decide +kernel) (by decide +kernel) hs1 hpl
    refine (pss_one (ps_ret (pe_ifExp (pt_val ht) pe_str pe_str))).run pins s σ H D I ?_
    refine ⟨_, e3, ?_⟩
    refine ⟨_, _, ans, rfl, ?_, hk, ?_⟩
    · intro u hu; exact hu
    · refine ⟨ans, rfl, ?_⟩
      cases ans with
      | true => exact q
      | false => exact q
  · refine ⟨g, l, h, S, R, ?_⟩
    unfold sTryIs at AA
    cases e : db l h with
    | nx l1 h1 => rw [e] at AA; exact AA
    | bk l1 h1 => rw [e] at AA; exact AA
    | ct l1 h1 => rw [e] at AA; exact AA
    | rt l1 h1 => rw [e] at AA; exact AA
    | fail => rw [e] at AA; exact AA
    | exc x1 l1 h1 =>
      rw [e] at AA
      simp only at AA
      split at AA
      · rename_i hcc
        intro g' H' σ' cls d E R' S' re
        obtain ⟨k1, k2⟩ := re
        rw [hcc.1] at k1
        rw [hcc.2.1] at k2
        simp only at k2
        subst k1 k2
        have hlen : i < σ'.length := by rw [← S'.len]; exact hcc.2.2
        refine ⟨true, hm, fun _ a na => ⟨rfl, rfl, by rw [List.getElem?_set_self hlen], ?_⟩, fun z => by cases z⟩
        exact AA g' H' _ E R' (by simp only [VR])
      · exact AA.elim
end
end GH
set_option Elab.async false
set_option linter.all false
set_option maxRecDepth 100000
set_option maxHeartbeats 4000000
set_option autoImplicit false
/-! what the head tells of tuples of texts, of classes of exceptions. -/
namespace GH
open PySem PySem.Spec PyProof.Rows L2
variable [TheWorld]
theorem VRs_txt {K : PySem.W.Frag} {g : Gh} {H : Hp} : ∀ ws : List (List Nat), VRs K g H (ws.map .str) ((ws.map fun s => He.Dv.str (sOf s)).map (He.Dv.v K))
  | [] => VRs.nil
  | w :: ws => VRs.cons (by simp only [VR]; rfl) (VRs_txt ws)
theorem tup_txt {K : PySem.W.Frag} {x : Str} (ws : List (List Nat)) (h : He.tupB K x (ws.map fun s => He.Dv.str (sOf s)) = true) (g : Gh) (H : Hp) : VR K g H (.tup (ws.map .str)) (.ref (He.ga K x)) := by
  simp only [VR]
  exact ⟨_, _, rfl, He.tupB_ok h H, VRs_txt ws⟩
def excCB (K : PySem.W.Frag) (D : Addr) : Bool :=
  decide (PySem.W.findIn K (.ref D) "__getattribute__" = some (some (.builtin "BaseException.__getattribute__"))) && decide (PySem.W.findIn K (.ref D) "__getattr__" = some none) && decide (PySem.W.subIn K (.ref D) (.type "BaseException") = some true) &&
  PySem.W.hasDictIn K D && decide (PySem.W.findIn K (.ref D) "__class__" = some (some (.builtin "object.__class__"))) && decide (PySem.W.specialIn K (.builtin "object.__class__") "__get__" = some (some (.builtin "getset_descriptor.__get__"))) &&
  decide (PySem.W.takesIn K (.builtin "object.__class__") = some true) && decide (PySem.W.mroIn K D (.type "object") = some true)
theorem excCB_ok {K : PySem.W.Frag} {D : Addr} (h : excCB K D = true) : ExcC K D := by
  unfold excCB at h
  simp only [Bool.and_eq_true, decide_eq_true_eq] at h
  obtain ⟨⟨⟨⟨⟨⟨⟨h1, h2⟩, h3⟩, h4⟩, h5⟩, h6⟩, h7⟩, h8⟩ := h
  exact ⟨h1, h2, h3, h4, h5, h6, h7, h8⟩
def kitB (K : PySem.W.Frag) (C D : Addr) (b : Bool) : Bool := decide (PySem.W.kitOne K (.ref C) (.ref D) = some b)
theorem kitB_ok' {K : PySem.W.Frag} {C D : Addr} {b : Bool} (h : kitB K C D b = true) : PySem.W.kitOne K (.ref C) (.ref D) = some b := of_decide_eq_true h
end GH
set_option Elab.async false
set_option linter.all false
set_option maxRecDepth 100000
set_option maxHeartbeats 1000000
set_option autoImplicit false
/-! lists of texts, sorted; results as equations. -/
namespace GH
open PySem
variable [TheWorld]
abbrev Tx := List Nat
theorem eq_of {α : Type} {r : Res α} {a : α} {h : Hv} (k : ok r fun v h' => v = a ∧ h' = h) : r = .ok a h := by
  obtain ⟨v, h', e, rfl, rfl⟩ := ok_eq k
  exact e
@[simp] theorem sOf_cps (s : Tx) : (sOf s).cps.toList = s := rfl
theorem cps_sOf (s : Str) : sOf s.cps.toList = s := by cases s; rfl
def srt (L : List Tx) : List Tx := ((L.map sOf).mergeSort leS).map fun s => s.cps.toList
theorem sortStr_srt (L : List Tx) : sortStr L = (srt L).map .str := by simp [sortStr, srt]
theorem srt_sOf (L : List Tx) : (srt L).map sOf = (L.map sOf).mergeSort leS := by
  simp only [srt, List.map_map]
  conv => rhs; rw [← List.map_id ((L.map sOf).mergeSort leS)]
  rfl
theorem map_sOf_inj {A B : List Tx} (e : A.map sOf = B.map sOf) : A = B := List.map_inj_right (fun _ _ e => sOf_inj e) |>.mp e
theorem srt_perm {A B : List Tx} (p : A.Perm B) : srt A = srt B := by
  unfold srt
  rw [sortS_perm (p.map sOf)]
theorem srt_perm_self (A : List Tx) : (srt A).Perm A := by
  have p := List.mergeSort_perm (A.map sOf) leS
  rw [← srt_sOf] at p
  have q := p.map fun s => s.cps.toList
  simpa [List.map_map, Function.comp_def] using q
theorem srt_mem {A : List Tx} {x : Tx} : x ∈ srt A ↔ x ∈ A := (srt_perm_self A).mem_iff
theorem srt_len (A : List Tx) : (srt A).length = A.length := (srt_perm_self A).length_eq
theorem srt_nodup {A : List Tx} (n : A.Nodup) : (srt A).Nodup := (srt_perm_self A).nodup_iff.mpr n
theorem srt_nil : srt [] = [] := List.length_eq_zero_iff.mp (srt_len [])
theorem srt_id {A : List Tx} (h : (A.map sOf).Pairwise fun a b => leS a b = true) : srt A = A := by
  apply map_sOf_inj
  rw [srt_sOf]
  exact (sortS_of (List.Perm.refl _) h).symm
/-- lists of different texts with the same ones -/
theorem srt_same {A B : List Tx} (na : A.Nodup) (nb : B.Nodup) (h : ∀ x, x ∈ A ↔ x ∈ B) : srt A = srt B := srt_perm ((List.perm_ext_iff_of_nodup na nb).mpr h)
theorem strsOf_map : ∀ L : List Tx, strsOf (L.map .str) = some L
  | [] => rfl
  | x :: L => by simp [strsOf, strsOf_map L]
abbrev TxOk (L : List Tx) : Prop := ∀ x ∈ L, okV (.str x) = true
theorem okVs_txt : ∀ {L : List Tx}, TxOk L → okVs (L.map .str) = true
  | [], _ => rfl
  | x :: L, h => by
    simp only [List.map_cons, okVs, h x (List.mem_cons_self ..), okVs_txt fun y hy => h y (List.mem_cons_of_mem _ hy), Bool.and_self]
theorem dpVs_txt : ∀ L : List Tx, dpVs (L.map .str) = 0
  | [] => rfl
  | x :: L => by simp [dpVs, dpV, dpVs_txt L]
theorem vSorted_txt {L : List Tx} (o : TxOk L) (h : Hv) : vSorted (.lst (L.map .str)) h = .ok (.lst ((srt L).map .str)) h := by
  have ok : sortOk (L.map .str) = true := by
    unfold sortOk
    rw [okVs_txt o, dpVs_txt]
    have h3 : ((L.map Val.str).all fun a => (L.map Val.str).all fun b => PySem.W.alike (pd a) (pd b)) = true := by
      refine List.all_eq_true.mpr fun a ha => List.all_eq_true.mpr fun b hb => ?_
      obtain ⟨p, _, rfl⟩ := List.mem_map.mp ha
      obtain ⟨q, _, rfl⟩ := List.mem_map.mp hb
      simp [pd, PySem.W.alike]
    have h4 : ((L.map Val.str).all isPlainK) = true := List.all_eq_true.mpr fun a ha => by
      obtain ⟨p, _, rfl⟩ := List.mem_map.mp ha
      rfl
    rw [h3, h4]
    simp
  have e : sortV (L.map .str) = (srt L).map .str := by
    unfold sortV
    have q := PySem.W.dataLe_str sOf
    have m : (L.mergeSort fun a b => leS (sOf a) (sOf b)).map Val.str = (L.map Val.str).mergeSort (PySem.W.dataLe false pd) := List.map_mergeSort fun a ha b hb => by
      have z := congrFun (congrFun q a) b
      rw [show leS (sOf a) (sOf b) = decide ((sOf a).cps.toList ≤ (sOf b).cps.toList) from rfl, ← z]
      rfl
    rw [← m]
    congr 1
    apply map_sOf_inj
    rw [srt_sOf]
    exact List.map_mergeSort fun a ha b hb => rfl
  simp [vSorted, lstOf, ok, e]
theorem addS_mem {L : List Str} {x y : Str} : y ∈ addS L x ↔ y ∈ L ∨ y = x := by
  unfold addS
  split
  · rename_i h
    constructor
    · exact .inl
    · rintro (q | rfl)
      · exact q
      · exact h
  · simp
theorem ddS_aux : ∀ (xs L : List Str), L.Nodup → (xs.foldl addS L).Nodup ∧ ∀ y, y ∈ xs.foldl addS L ↔ y ∈ L ∨ y ∈ xs
  | [], L, n => ⟨n, by simp⟩
  | x :: xs, L, n => by
    have n2 : (addS L x).Nodup := by
      unfold addS
      split
      · exact n
      · rename_i h
        refine List.nodup_append.mpr ⟨n, by simp, ?_⟩
        intro a ha b hb
        rw [List.mem_singleton.mp hb]
        rintro rfl
        exact h ha
    obtain ⟨a, b⟩ := ddS_aux xs (addS L x) n2
    refine ⟨a, fun y => ?_⟩
    rw [List.foldl_cons, b, addS_mem, List.mem_cons, or_assoc]
theorem vSortSet_txt {L M : List Tx} {v : Val} {h : Hv} (e : seqOf h v = some (L.map .str)) (n : L.length < 4000) (nd : M.Nodup) (hm : ∀ x, x ∈ M ↔ x ∈ L) : vSortSet v h = .ok (.lst ((srt M).map .str)) h := by
  have z : sortSet L = (srt M).map .str := by
    unfold sortSet
    obtain ⟨a, b⟩ := ddS_aux (L.map sOf) [] .nil
    have p : (ddS (L.map sOf)).Perm (M.map sOf) := by
      refine (List.perm_ext_iff_of_nodup a ?_).mpr fun y => ?_
      · exact List.pairwise_map.mpr (nd.imp fun ne e => ne (sOf_inj e))
      · rw [b]
        simp only [List.not_mem_nil, false_or, List.mem_map]
        constructor
        · rintro ⟨x, hx, rfl⟩; exact ⟨x, (hm x).mpr hx, rfl⟩
        · rintro ⟨x, hx, rfl⟩; exact ⟨x, (hm x).mp hx, rfl⟩
    rw [sortS_perm p, ← srt_sOf, List.map_map]
    congr 1
  simp [vSortSet, e, strsOf_map, n, z]
theorem vSortDic_txt {l : List (Val × Val)} {i : Nat} {L : List Tx} {h : Hv} (e : h[i]? = some (.dic l)) (k : l.map (·.1) = L.map .str) (n : L.length < 64) : vSortDic (.ref i) h = .ok (.lst ((srt L).map .str)) h := by
  simp only [vSortDic, dicOf, e, k, strsOf_map, n, if_true, sortStr_srt]
theorem inSeq_txt (x : Tx) (L : List Tx) : inSeq (.str x) (L.map .str) = decide (x ∈ L) := by
  unfold inSeq
  induction L with
  | nil => rfl
  | cons a s ih =>
    simp only [List.map_cons, List.any_cons, ih, veq_str]
    by_cases h1 : a = x <;> by_cases h2 : x ∈ s <;> simp [h1, h2, eq_comm]
    intro e; exact absurd e.symm h1
theorem inOk_txt {x : Tx} {L : List Tx} (ox : okV (.str x) = true) (o : TxOk L) : inOk (.str x) (L.map .str) = true := by
  unfold inOk
  rw [ox, okVs_txt o, dpVs_txt]
  simp
section
variable {x : Tx} {L : List Tx} (ox : okV (.str x) = true) (o : TxOk L) (h : Hv)
include ox o
theorem vIn_tupTxt : vIn (.str x) (.tup (L.map .str)) h = .ok (.bl (decide (x ∈ L))) h := by
  simp only [vIn, isIn, seqOf, thaw, inOk_txt ox o, if_true, inSeq_txt, Res.bind_ok]
theorem vIn_lstTxt : vIn (.str x) (.lst (L.map .str)) h = .ok (.bl (decide (x ∈ L))) h := by
  simp only [vIn, isIn, seqOf, lstOf, thaw, inOk_txt ox o, if_true, inSeq_txt, Res.bind_ok]
theorem vNotIn_tupTxt : vNotIn (.str x) (.tup (L.map .str)) h = .ok (.bl (!decide (x ∈ L))) h := by
  simp only [vNotIn, isIn, seqOf, thaw, inOk_txt ox o, if_true, inSeq_txt, Res.bind_ok]
theorem vNotIn_lstTxt : vNotIn (.str x) (.lst (L.map .str)) h = .ok (.bl (!decide (x ∈ L))) h := by
  simp only [vNotIn, isIn, seqOf, lstOf, thaw, inOk_txt ox o, if_true, inSeq_txt, Res.bind_ok]
end
@[simp] theorem vNe_str (a b : Tx) (h : Hv) : vNe (.str a) (.str b) h = .ok (.bl (!decide (a = b))) h := nrfl rfl
@[simp] theorem vNe_int (a b : Int) (h : Hv) : vNe (.int a) (.int b) h = .ok (.bl (!decide (a = b))) h := nrfl rfl
theorem vEq_lnil (L : List Val) (o : okVs L = true) (h : Hv) : vEq (.lst L) (.lst []) h = .ok (.bl L.isEmpty) h ∧ vNe (.lst L) (.lst []) h = .ok (.bl (!L.isEmpty)) h := by
  cases L with
  | nil => exact ⟨rfl, rfl⟩
  | cons a l =>
    simp only [okVs] at o
    constructor
    · simp only [vEq, thaw, eqOk, okV, okVs, dpV, dpVs, o, Bool.and_true, Bool.true_and]
      rw [if_pos (by simp)]
      rfl
    · simp only [vNe, thaw, eqOk, okV, okVs, dpV, dpVs, o, Bool.and_true, Bool.true_and]
      rw [if_pos (by simp)]
      rfl
/-! words asked -/
section
variable {l : GH.Loc} {h : Hv} {i : Nat} {w : Tx} {c : Bool}
theorem inT (L : List Tx) (hl : l[i]? = some (some (.str w))) (ow : okV (.str w) = true) (o : TxOk L) (d : decide (w ∈ L) = c) : dB (dBin vIn (dVar i) (dC (.tup (L.map .str)))) l h = .ok c h := by
  simp only [e_b, e_bin, dVar, hl, Res.bind_ok, e_c, vIn_tupTxt ow o, resB_bl, d]
/-- d has the text w -/
theorem inTd {dd : Den} (L : List Tx) (hl : dd l h = .ok (.str w) h) (ow : okV (.str w) = true) (o : TxOk L) (d : decide (w ∈ L) = c) : dB (dBin vIn dd (dC (.tup (L.map .str)))) l h = .ok c h := by
  simp only [e_b, e_bin, hl, Res.bind_ok, e_c, vIn_tupTxt ow o, resB_bl, d]
def strsD : List Tx → DenG (List Val)
  | [] => dNil
  | a :: r => dCons (dC (.str a)) (strsD r)
theorem strsD_run (l : GH.Loc) (h : Hv) : ∀ ws : List Tx, strsD ws l h = .ok (ws.map .str) h
  | [] => rfl
  | a :: r => by simp [strsD, strsD_run l h r]
theorem inLd {dd : Den} (L : List Tx) (hl : dd l h = .ok (.str w) h) (n : L.length ≤ 100) (ow : okV (.str w) = true) (o : TxOk L) (d : decide (w ∈ L) = c) : dB (dBin vIn dd (dLst (strsD L))) l h = .ok c h := by
  simp only [e_b, e_bin, hl, Res.bind_ok, e_lst, strsD_run]
  rw [mkL_ok (by simp; omega)]
  simp only [Res.bind_ok, vIn_lstTxt ow o, resB_bl, d]
theorem eqT {dd : Den} {u : Tx} (hl : dd l h = .ok (.str w) h) (d : decide (w = u) = c) : dB (dBin vEq dd (dC (.str u))) l h = .ok c h := by
  simp only [e_b, e_bin, hl, Res.bind_ok, e_c, vEq_str, resB_bl, d]
end
theorem vMax_ints {L : List Int} {m : Int} (e : L.max? = some m) (h : Hv) : vMax (.lst (L.map .int)) h = .ok (.int m) h := by
  have z : ∀ L : List Int, intsOf (L.map .int) = some L := fun L => by
    induction L with
    | nil => rfl
    | cons a L ih => simp [intsOf, ih]
  simp [vMax, lstOf, z, e]
theorem if2_ {t : DenG Bool} {a b rest : Stm} {l : GH.Loc} {h : Hv} {P : Post} {c : Bool} (e : t l h = .ok c h) (z1 : c = true → sok (a l h) { P with nx := fun l h => sok (rest l h) P }) (z2 : c = false → sok (b l h) { P with nx := fun l h => sok (rest l h) P }) : sok (sSeq (sIf t a b) rest l h) P := by
  rw [e_seq, sok_then]
  simp only [e_if, e, Res.to_ok]
  cases c with
  | true => simpa using z1 rfl
  | false => simpa using z2 rfl
theorem expr_ {d : Den} {rest : Stm} {l : GH.Loc} {h h1 : Hv} {v : Val} {P : Post} (e : d l h = .ok v h1) (z : sok (rest l h1) P) : sok (sSeq (sExpr d) rest l h) P := by
  rw [e_seq, sok_then, e_expr, e]
  exact z
theorem lcL_filL {α : Type} (V : α → Val) (F : α → Bool) (G : α → Val) {t : Tg} {c : DenG Bool} {e : Den} {s : Src} {l : GH.Loc} {h : Hv} (hs : srcOk s h) : ∀ (L : List α) (acc : List Val), (∀ p ∈ L, ∃ l1, t (V p) l h = .ok l1 h ∧ c l1 h = .ok (F p) h ∧ (F p = true → e l1 h = .ok (G p) h)) → lcL t c e s (L.map V) acc l h = .ok (acc ++ (L.filter F).map G) h
  | [], acc, _ => by simp [lcL, hs]
  | x :: r, acc, q => by
    obtain ⟨l1, e1, e2, e3⟩ := q x (List.mem_cons_self ..)
    have ih := fun acc => lcL_filL V F G (t := t) (c := c) (e := e) (l := l) hs r acc fun y hy => q y (List.mem_cons_of_mem _ hy)
    simp only [List.map_cons, lcL, if_pos hs, e1, e2]
    cases ef : F x with
    | true => simp [e3 ef, ih, ef]
    | false => simp [ih, ef]
theorem lcL_mapL {α : Type} (V : α → Val) (G : α → Val) {t : Tg} {e : Den} {s : Src} {l : GH.Loc} {h : Hv} (hs : srcOk s h) (L : List α) (acc : List Val) (q : ∀ p ∈ L, ∃ l1, t (V p) l h = .ok l1 h ∧ e l1 h = .ok (G p) h) : lcL t dYes e s (L.map V) acc l h = .ok (acc ++ L.map G) h := by
  rw [lcL_filL V (fun _ => true) G hs L acc fun p hp => ?_]
  · rw [List.filter_eq_self.mpr fun _ _ => rfl]
  · obtain ⟨l1, e1, e2⟩ := q p hp
    exact ⟨l1, e1, rfl, fun _ => e2⟩
theorem dif_ {t : DenG Bool} {a b : Den} {l : GH.Loc} {h h1 : Hv} {P : Val → Hv → Prop} {c : Bool} (e : t l h = .ok c h1) (z1 : c = true → ok (a l h1) P) (z2 : c = false → ok (b l h1) P) : ok (dIf t a b l h) P := by
  rw [e_dif, e]
  cases c with
  | true => simpa using z1 rfl
  | false => simpa using z2 rfl
end GH
set_option Elab.async false
set_option linter.all false
set_option maxRecDepth 100000
set_option maxHeartbeats 4000000
set_option autoImplicit false
/-! objects of the program's classes: attributes, methods, makers. -/
namespace GH
open PySem PySem.Spec PyProof.Rows L2
variable [TheWorld]
def fput (f : Tx) (v : Val) : List (Tx × Val) → List (Tx × Val)
  | [] => [(f, v)]
  | (g, x) :: r => if g = f then (g, v) :: r else (g, x) :: fput f v r
def fget (f : Tx) : List (Tx × Val) → Option Val
  | [] => none
  | (g, x) :: r => if g = f then some x else fget f r
section
variable {K : PySem.W.Frag} {g : Gh} {H : Hp}
theorem FR.inv {p : Tx × Val} {fs : List (Tx × Val)} {gs : List (Str × V)} (r : FR K g H (p :: fs) gs) : ∃ x gs', gs = (sOf p.1, x) :: gs' ∧ VR K g H p.2 x ∧ FR K g H fs gs' := by
  obtain ⟨e, r⟩ := r
  cases gs with
  | nil => cases e
  | cons q gs' =>
    simp only [List.map_cons, List.cons.injEq] at e
    simp only [List.map_cons, VRs] at r
    obtain ⟨x, r', e2, r1, r2⟩ := r
    obtain ⟨e3, e4⟩ := List.cons.inj e2
    refine ⟨q.2, gs', by rw [← e.1], by rw [e3]; exact r1, e.2, by rw [e4]; exact r2⟩
theorem FR.nilInv {gs : List (Str × V)} (r : FR K g H [] gs) : gs = [] := by
  cases gs with
  | nil => rfl
  | cons q gs' => cases r.1
theorem FR.cons {p : Tx × Val} {fs : List (Tx × Val)} {x : V} {gs : List (Str × V)} (r : VR K g H p.2 x) (t : FR K g H fs gs) : FR K g H (p :: fs) ((sOf p.1, x) :: gs) :=
  ⟨by simp only [List.map_cons, t.1], by simp only [List.map_cons]; exact VRs.cons r t.2⟩
theorem FR.length {fs : List (Tx × Val)} {gs : List (Str × V)} (r : FR K g H fs gs) : gs.length = fs.length := by
  have := congrArg List.length r.1
  simpa using this
theorem FR.get {f : Tx} : ∀ {fs : List (Tx × Val)} {gs : List (Str × V)}, FR K g H fs gs → (∀ v, fget f fs = some v → ∃ x, gs.lookup (sOf f) = some x ∧ VR K g H v x) ∧ (fget f fs = none → gs.lookup (sOf f) = none)
  | [], gs, r => by rw [r.nilInv]; exact ⟨(fun v e => by cases e), (fun _ => rfl)⟩
  | p :: fs, gs, r => by
    obtain ⟨x, gs', rfl, r1, r2⟩ := r.inv
    obtain ⟨a, b⟩ := FR.get (f := f) r2
    obtain ⟨pf, pv⟩ := p
    unfold fget
    by_cases h : pf = f
    · subst h
      simp only [if_true]
      refine ⟨fun v e => ?_, fun e => by cases e⟩
      cases e
      exact ⟨x, by simp [List.lookup], r1⟩
    · have h2 : (sOf f == sOf pf) = false := by
        simp only [beq_eq_false_iff_ne, ne_eq]
        exact fun e => h (sOf_inj e).symm
      simp only [if_neg h, List.lookup, h2]
      exact ⟨a, b⟩
theorem FR.put {f : Tx} {v : Val} {x : V} (rx : VR K g H v x) : ∀ {fs : List (Tx × Val)} {gs : List (Str × V)}, FR K g H fs gs → FR K g H (fput f v fs) (putF (sOf f) x gs)
  | [], gs, r => by rw [r.nilInv]; exact FR.cons (p := (f, v)) rx ⟨rfl, VRs.nil⟩
  | p :: fs, gs, r => by
    obtain ⟨y, gs', rfl, r1, r2⟩ := r.inv
    obtain ⟨pf, pv⟩ := p
    unfold fput putF
    by_cases h : pf = f
    · subst h
      rw [if_pos rfl, if_pos rfl]
      exact FR.cons (p := (pf, v)) rx r2
    · rw [if_neg h, if_neg fun e => h (sOf_inj e)]
      exact FR.cons (p := (pf, pv)) r1 (FR.put rx r2)
end
/-- the object that v is, of the class c -/
def insOf (c : Tx) (h : Hv) (v : Val) : Option (Nat × List (Tx × Val)) := match v with
  | .ref i => match h[i]? with
    | some (.ins c' fs) => if c' = c then some (i, fs) else none
    | _ => none
  | _ => none
section
variable {X : Cx} {W : WX}
theorem insOf_ok {K : PySem.W.Frag} {g : Gh} {H : Hp} {h : Hv} {v : Val} {x : V} {c : Tx} {i : Nat} {fs : List (Tx × Val)} (R : HR K g H h) (r : VR K g H v x) (e : insOf c h v = some (i, fs)) :
    v = .ref i ∧ ∃ a dx gs, x = .ref a ∧ g.m[i]? = some a ∧ H a = some (.ins (clsA K c) dx gs) ∧ FR K g H fs gs := by
  unfold insOf at e
  split at e
  · rename_i j
    split at e
    · rename_i c' fs' he
      split at e
      · rename_i hc
        subst hc
        cases e
        simp only [VR] at r
        obtain ⟨a, rfl, hm⟩ := r
        obtain ⟨dx, gs, e1, e2⟩ := ref_at R he hm
        exact ⟨rfl, a, dx, gs, rfl, hm, e1, e2⟩
      · cases e
    · cases e
  · cases e
/-- o.f -/
def dFld (c f : Tx) (o : Den) : Den := fun l h => (o l h).bind fun v h1 => match insOf c h1 v with
  | some (_, fs) => (match fget f fs with
    | some w => .ok w h1
    | none => .fail)
  | none => .fail
theorem ge_fld (c f : Tx) {o : Expr} {d : Den} {x : Str} {pos : Pos} (ho : GE X W o d) (cl : Cls X.K (clsA X.K c)) (n : NoAttr X.K (clsA X.K c) (sOf f)) (hx : x = sOf f := by decide +kernel) (hb : attributeBase o x X.env (eval o X.env) = eval o X.env := by rfl) : GE X W (.Attribute o x pos) (dFld c f d) := by
  subst hx
  refine PE.imp (pe_fld ho hb) fun σ H Q ⟨g, l, h, S, R, A⟩ => ?_
  refine tG_of S R A fun v h1 g1 H1 x E S1 R1 r1 A1 => ?_
  split at A1
  · rename_i i fs e
    obtain ⟨rfl, a, dx, gs, rfl, hm, ha, fr⟩ := insOf_ok R1 r1 e
    split at A1
    · rename_i w ew
      obtain ⟨y, e1, r2⟩ := (FR.get fr).1 w ew
      exact ⟨a, _, dx, gs, y, rfl, ha, cl, n, e1, A1 g1 H1 y Ext.refl R1 r2⟩
    · exact A1.elim
  · exact A1.elim
/-- o.f as a target -/
def gFld (c f : Tx) (o : Den) : Tg := fun v l h => (o l h).toT l fun x h1 => match insOf c h1 x with
  | some (i, fs) => if fs.length < 1000 then .ok l (h1.set i (.ins c (fput f v fs))) else .fail
  | none => .fail
def gFldT (K : PySem.W.Frag) (to : TE) (f : Str) : TG := fun v σ H Q => to σ H fun x H1 => ∃ a C dx fs, x = .ref a ∧ H1 a = some (.ins C dx fs) ∧ Cls K C ∧ NoAttr K C f ∧ fs.length < 1000 ∧ Q σ (upd H1 a (.ins C dx (putF f v fs)))
theorem pg_fld {o : Expr} {to : TE} {f : Str} {pos : Pos} (ho : PE X o to) (ha : ∀ v, assign (.Attribute o f pos) X.env v = (do
      let ov ← holding [v] (eval o X.env)
      standAt pos.atName
      holding [v, ov] (setAttr ov f v)
      release [v, ov] []) := by intro _; rfl) : PG X (.Attribute o f pos) (gFldT X.K to f) := by
  refine ⟨fun pins s σ H v u Q I r h => ?_⟩
  rw [ha]
  refine wpAny_bind (wpAny_holding (thn (ho.run pins s σ H _ I h) fun ov s1 ⟨x, H1, I1, r1, a, C, dx, fs, ex, ea, c, n, l, q1⟩ => ?_))
  subst ex
  obtain rfl : ov = Value.ref a := r1
  refine wpAny_bind (wpAny_standAt (wpAny_bind (wpAny_holding (setattr_ok I1 ea c n l r fun s3 I3 => ?_))))
  exact wpAny_release ⟨σ, _, I3, q1⟩
theorem HR.writeIns {K : PySem.W.Frag} {g : Gh} {H : Hp} {h : Hv} (R : HR K g H h) {c f : Tx} {i : Nat} {a dx : Addr} {fs : List (Tx × Val)} {gs : List (Str × V)} {v : Val} {x : V} (hm : g.m[i]? = some a) (fr : FR K g H fs gs) (rx : VR K g H v x) :
    Ext g H g (upd H a (.ins (clsA K c) dx (putF (sOf f) x gs))) ∧ HR K g (upd H a (.ins (clsA K c) dx (putF (sOf f) x gs))) (h.set i (.ins c (fput f v fs))) :=
  R.write (ob := .ins c (fput f v fs)) (o' := .ins (clsA K c) dx (putF (sOf f) x gs)) hm fun E => ⟨dx, _, upd_same, FR.put (rx.ext R E) ⟨fr.1, fr.2.ext R E⟩⟩
theorem gg_fld (c f : Tx) {o : Expr} {d : Den} {x : Str} {pos : Pos} (ho : GE X W o d) (cl : Cls X.K (clsA X.K c)) (n : NoAttr X.K (clsA X.K c) (sOf f)) (hx : x = sOf f := by decide +kernel) (ha : ∀ v, assign (.Attribute o x pos) X.env v = (do
      let ov ← holding [v] (eval o X.env)
      standAt pos.atName
      holding [v, ov] (setAttr ov x v)
      release [v, ov] []) := by intro _; rfl) : GG X W (.Attribute o x pos) (gFld c f d) := by
  subst hx
  refine PG.imp (pg_fld ho ha) fun y σ H Q ⟨g, l, h, v, S, R, r, A⟩ => ?_
  refine tG_T S R A fun x h1 g1 H1 x' E S1 R1 r1 A1 => ?_
  split at A1
  · rename_i i fs e
    obtain ⟨rfl, a, dx, gs, rfl, hm, ha, fr⟩ := insOf_ok R1 r1 e
    split at A1
    · rename_i hl
      obtain ⟨E2, R2⟩ := R1.writeIns (c := c) (f := f) (dx := dx) hm fr (r.ext R E)
      exact ⟨a, _, dx, gs, rfl, ha, cl, n, by rw [fr.length]; exact hl, A1 g1 _ σ E2 R2 (S1.ext R1 E2)⟩
    · exact A1.elim
  · exact A1.elim
/-- o.f = e -/
theorem gs_fld (c f : Tx) {o e : Expr} {d de : Den} {x : Str} {pos pos' : Pos} (he : GE X W e de) (ho : GE X W o d) (cl : Cls X.K (clsA X.K c)) (n : NoAttr X.K (clsA X.K c) (sOf f)) (hx : x = sOf f := by decide +kernel) (hs : swapsWith e (some (.Attribute o x pos')) pos.line X.env = pure false := by rfl) :
    GS X W (.Assign [.Attribute o x pos'] e pos) (sAsg de (gFld c f d)) := by
  subst hx
  refine PS.imp (ps_fld ho he hs) fun D σ H ⟨g, l, h, S, R, A⟩ => ?_
  refine tG_to S R A fun y h1 g1 H1 y' E S1 R1 ry A1 => ?_
  unfold gFld at A1
  cases eo : d l h1 with
  | ok x h2 =>
    rw [eo] at A1
    refine ⟨g1, l, h1, S1, R1, ?_⟩
    rw [eo]
    intro g2 H2 x' E2 R2 rx
    simp only [Res.toT_ok] at A1
    cases ei : insOf c h2 x with
    | none => rw [ei] at A1; exact A1.elim
    | some q =>
      obtain ⟨i, fs⟩ := q
      rw [ei] at A1
      simp only at A1
      obtain ⟨rfl, a, dx, gs, rfl, hm, ha, fr⟩ := insOf_ok R2 rx ei
      split at A1
      · rename_i hl
        obtain ⟨E3, R3⟩ := R2.writeIns (c := c) (f := f) (dx := dx) hm fr (ry.ext R1 E2)
        exact ⟨a, _, dx, gs, rfl, ha, cl, n, by rw [fr.length]; exact hl, A1 g2 _ σ (E2.trans E3) R3 (S1.ext R1 (E2.trans E3))⟩
      · exact A1.elim
  | exc x h2 =>
    rw [eo] at A1
    refine ⟨g1, l, h1, S1, R1, ?_⟩
    rw [eo]
    exact fun g2 H2 cls dd E2 R2 re => A1 g2 H2 σ cls dd E2 R2 (S1.ext R1 E2) re
  | fail => rw [eo] at A1; exact A1.elim
/-- o.f += e, whole numbers -/
def sFldAug (c f : Tx) (o e : Den) : Stm := fun l h => (o l h).to l fun x h1 => match insOf c h1 x with
  | some (_, fs) => (match fget f fs with
    | some (.int i) => (e l h1).to l fun y h2 => (match y with
      | .int j => (match insOf c h2 x with
        | some (k, fs') => if fs'.length < 1000 then .nx l (h2.set k (.ins c (fput f (.int (i + j)) fs'))) else .fail
        | none => .fail)
      | _ => .fail)
    | _ => .fail)
  | none => .fail
theorem gs_fldaug (c f : Tx) {o e : Expr} {d de : Den} {x : Str} {pos tpos : Pos} (ho : GE X W o d) (he : GE X W e de) (cl : Cls X.K (clsA X.K c)) (n : NoAttr X.K (clsA X.K c) (sOf f)) (hx : x = sOf f := by decide +kernel) :
    GS X W (.AugAssign (.Attribute o x tpos) .Add e pos) (sFldAug c f d de) := by
  subst hx
  refine PS.imp (ps_fldaug ho he in_add) fun D σ H ⟨g, l, h, S, R, A⟩ => ?_
  refine tG_to S R A fun x h1 g1 H1 x' E S1 R1 r1 A1 => ?_
  split at A1
  · rename_i q fs e0
    obtain ⟨rfl, a, dx, gs, rfl, hm, ha, fr⟩ := insOf_ok R1 r1 e0
    split at A1
    · rename_i i ei
      obtain ⟨y, e1, r2⟩ := (FR.get fr).1 _ ei
      simp only [VR] at r2
      subst r2
      refine ⟨a, _, dx, gs, _, rfl, ha, cl, n, e1, ?_⟩
      refine tG_to S1 R1 A1 fun y h2 g2 H2 y' E2 S2 R2 ry A2 => ?_
      split at A2
      · rename_i j
        simp only [VR] at ry
        subst ry
        split at A2
        · rename_i k fs' e3
          obtain ⟨e4, a', dx', gs', e5, hm', ha', fr'⟩ := insOf_ok R2 (r1.ext R1 E2) e3
          cases e5
          split at A2
          · rename_i hl
            obtain ⟨E3, R3⟩ := R2.writeIns (c := c) (f := f) (dx := dx') (v := .int (i + j)) (x := .int (i + j)) hm' fr' (by simp only [VR])
            exact ⟨i, j, rfl, rfl, dx', gs', ha', by rw [fr'.length]; exact hl, A2 g2 _ σ E3 R3 (S2.ext R2 E3)⟩
          · exact A2.elim
        · exact A2.elim
      · exact A2.elim
    · exact A1.elim
  · exact A1.elim
/-! methods -/
/-- a method of the class c keeps D -/
structure FnM (P : Program) (w : World) (K : PySem.W.Frag) (mg : Str → Option Value) (base : Heap) (k : Nat) (D : DF) (c m : Tx) (ps : List Str) : Prop where
  ok : ∃ fd, FnOk P w K mg base (L2.CX P w) k (He.ma K (clsA K c) (sOf m)) fd ps (spG K D ps.length) ∧ Binds K fd ps []
  me : Meth K (clsA K c) (sOf m) (He.ma K (clsA K c) (sOf m))
def AllM (P : Program) (w : World) (K : PySem.W.Frag) (mg : Str → Option Value) (base : Heap) (msig : List (Tx × Tx × List Str)) (n0 k : Nat) (Γ : Gam) : Prop := ∀ (j : Nat) (c m : Tx) (ps : List Str), msig[j]? = some (c, m, ps) → FnM P w K mg base k (Γ (n0 + j)) c m ps
theorem pe_methS' {CX : CXT} {k : Nat} {C f : Addr} {fd : FuncData} {ps : List Str} {sp : Sp} {E : L2.St → XK} {m : Str} {pos apos : Pos} {o e : Expr} {es : List Expr} {ta : TE} {t : TA} {pl : Sem Bool} (he : PE X o ta) (c : Cls X.K C) (hm : Meth X.K C m f) (F : FnOk X.prog X.w X.K X.mg X.base CX k f fd ps sp) (hr : Room k X.A) (hb : Binds X.K fd ps []) (hx : ∀ σ, PassesAt CX X σ (E σ)) (ha : PA X (e :: es) t)
    (hst : starEach (e :: es) X.env = (false, eval e X.env) :: starEach es X.env := by rfl) (hpl : (backTo pos (starEach es X.env)).any (·.1) = false := by rfl)
    (ht : eval (.Call (.Attribute o m apos) (e :: es) [] pos) X.env = (do
      let ov ← eval o X.env
      standAt apos.atName
      let (f, first) ← holding [ov] (getMethod ov m pl)
      callWith pos f first (backTo pos (starEach (e :: es) X.env)) (backToKw pos (keywordEach [] X.env))) := by rfl) :
    PE X (.Call (.Attribute o m apos) (e :: es) [] pos) (fun σ H Q => ta σ H fun x H1 => ∃ a dx fs, x = .ref a ∧ H1 a = some (.ins C dx fs) ∧ fs.lookup m = none ∧ t σ H1 fun vs H2 => sp (x :: vs) H2 Q (E σ)) := by
  refine ⟨fun pins s σ H Q I h => ?_⟩
  refine PySem.W.methodCall_KW (pl := pl) (thn (he.run pins s σ H _ I h) fun u s1 ⟨x, H1, I1, rx, a, dx, fs, ex, ea, l, q⟩ => ?_) ht
  subst ex
  obtain rfl : u = Value.ref a := rx
  refine getmeth_ok I1 ea c hm l ?_
  refine PySem.W.callWith_K (first := [.ref a]) (h₀ := X.base) I.ok.mod.kin hm.kp (thn (ha.run pos pins s1 σ H1 _ I1 q) fun us s2 ⟨vs, H2, I2, r, q2⟩ => ⟨I2.kIn, ?_⟩) hst hpl
  exact run_fnS (us := .ref a :: us) (vs := .ref a :: vs) F hr hb (hx σ) I2 (.cons rfl r) q2
theorem pe_methS0' {CX : CXT} {k : Nat} {C f : Addr} {fd : FuncData} {ps : List Str} {sp : Sp} {E : L2.St → XK} {m : Str} {pos apos : Pos} {o : Expr} {ta : TE} {pl : Sem Bool} (he : PE X o ta) (c : Cls X.K C) (hm : Meth X.K C m f) (F : FnOk X.prog X.w X.K X.mg X.base CX k f fd ps sp) (hr : Room k X.A) (hb : Binds X.K fd ps []) (hx : ∀ σ, PassesAt CX X σ (E σ))
    (ht : eval (.Call (.Attribute o m apos) [] [] pos) X.env = (do
      let ov ← eval o X.env
      standAt apos.atName
      let (f, first) ← holding [ov] (getMethod ov m pl)
      callWith pos f first (backTo pos (starEach [] X.env)) (backToKw pos (keywordEach [] X.env))) := by rfl) :
    PE X (.Call (.Attribute o m apos) [] [] pos) (fun σ H Q => ta σ H fun x H1 => ∃ a dx fs, x = .ref a ∧ H1 a = some (.ins C dx fs) ∧ fs.lookup m = none ∧ sp [x] H1 Q (E σ)) := by
  refine ⟨fun pins s σ H Q I h => ?_⟩
  refine PySem.W.methodCall_KW (pl := pl) (thn (he.run pins s σ H _ I h) fun u s1 ⟨x, H1, I1, rx, a, dx, fs, ex, ea, l, q⟩ => ?_) ht
  subst ex
  obtain rfl : u = Value.ref a := rx
  refine getmeth_ok I1 ea c hm l ?_
  exact PySem.W.callWith_K0 (first := [.ref a]) I1.kIn hm.kp (run_fnS (us := [.ref a]) (vs := [.ref a]) F hr hb (hx σ) I1 (.cons rfl .nil) q)
/-- o.m(..) -/
def dMth (c m : Tx) (D : DF) (o : Den) (r : DenG (List Val)) : Den := fun l h => (o l h).bind fun x h1 => match insOf c h1 x with
  | some (_, fs) => (match fget m fs with
    | none => (r l h1).bind fun vs h2 => D (x :: vs) h2
    | some _ => .fail)
  | none => .fail
theorem ge_mth (c m : Tx) {D : DF} {k n : Nat} {ps : List Str} {x : Str} {apos pos : Pos} {o e : Expr} {es : List Expr} {d : Den} {da : DenG (List Val)} {pl : Sem Bool} (ho : GE X W o d) (cl : Cls X.K (clsA X.K c)) (F : FnM X.prog X.w X.K X.mg X.base k D c m ps) (hr : Room k X.A) (tk : Takes X W) (ha : GAN X W (e :: es) n da) (hx : x = sOf m := by decide +kernel)
    (hn : n + 1 = ps.length := by rfl) (he : starEach (e :: es) X.env = (false, eval e X.env) :: starEach es X.env := by rfl) (hpl : (backTo pos (starEach es X.env)).any (·.1) = false := by rfl)
    (ht : eval (.Call (.Attribute o x apos) (e :: es) [] pos) X.env = (do
      let ov ← eval o X.env
      standAt apos.atName
      let (f, first) ← holding [ov] (getMethod ov x pl)
      callWith pos f first (backTo pos (starEach (e :: es) X.env)) (backToKw pos (keywordEach [] X.env))) := by rfl) : GE X W (.Call (.Attribute o x apos) (e :: es) [] pos) (dMth c m D d da) := by
  subst hx
  obtain ⟨fd, F1, b⟩ := F.ok
  refine PE.imp (pe_methS' ho cl F.me F1 hr b (fun σ => passAt tk σ) ha.ga he hpl ht) fun σ H Q ⟨g, l, h, S, R, A⟩ => ?_
  refine tG_of S R A fun x h1 g1 H1 x' E S1 R1 r1 A1 => ?_
  split at A1
  · rename_i q fs e0
    obtain ⟨rfl, a, dx, gs, rfl, hm, ha', fr⟩ := insOf_ok R1 r1 e0
    split at A1
    · rename_i ef
      refine ⟨a, dx, gs, rfl, ha', (FR.get fr).2 ef, ?_⟩
      refine ⟨g1, l, h1, S1, R1, ?_⟩
      cases ed : da l h1 with
      | ok vs h2 =>
        rw [ed] at A1
        intro g' H' ws E2 R' r
        exact spG_of (by rw [List.length_cons, ha.len l h1 vs h2 ed, hn]) R' (VRs.cons (r1.ext R1 E2) r) (After.ext E2 A1)
      | exc x h2 => rw [ed] at A1; exact A1
      | fail => rw [ed] at A1; exact A1
    · exact A1.elim
  · exact A1.elim
theorem ge_mth0 (c m : Tx) {D : DF} {k : Nat} {ps : List Str} {x : Str} {apos pos : Pos} {o : Expr} {d : Den} {pl : Sem Bool} (ho : GE X W o d) (cl : Cls X.K (clsA X.K c)) (F : FnM X.prog X.w X.K X.mg X.base k D c m ps) (hr : Room k X.A) (tk : Takes X W) (hx : x = sOf m := by decide +kernel)
    (hn : 1 = ps.length := by rfl)
    (ht : eval (.Call (.Attribute o x apos) [] [] pos) X.env = (do
      let ov ← eval o X.env
      standAt apos.atName
      let (f, first) ← holding [ov] (getMethod ov x pl)
      callWith pos f first (backTo pos (starEach [] X.env)) (backToKw pos (keywordEach [] X.env))) := by rfl) : GE X W (.Call (.Attribute o x apos) [] [] pos) (dMth c m D d dNil) := by
  subst hx
  obtain ⟨fd, F1, b⟩ := F.ok
  refine PE.imp (pe_methS0' ho cl F.me F1 hr b (fun σ => passAt tk σ) ht) fun σ H Q ⟨g, l, h, S, R, A⟩ => ?_
  refine tG_of S R A fun x h1 g1 H1 x' E S1 R1 r1 A1 => ?_
  split at A1
  · rename_i q fs e0
    obtain ⟨rfl, a, dx, gs, rfl, hm, ha', fr⟩ := insOf_ok R1 r1 e0
    split at A1
    · rename_i ef
      exact ⟨a, dx, gs, rfl, ha', (FR.get fr).2 ef, spG_of (by rw [← hn]; rfl) R1 (VRs.one r1) A1⟩
    · exact A1.elim
  · exact A1.elim
/-! C(..) -/
theorem run_makeS {CX : CXT} {k : Nat} {C f : Addr} {fd : FuncData} {ps : List Str} {sp : Sp} {E : L2.St → XK} {pins : List (Addr × Obj)} {σ : L2.St} {H : Hp} {s : Shared} {Q : VK} {us : List Value} {vs : List V} (M : Mk X.K C f) (F : FnOk X.prog X.w X.K X.mg X.base CX k f fd ps sp) (hr : Room (k + 1) X.A) (hb : Binds X.K fd ps [])
    (hx : PassesAt CX X σ (E σ)) (I : Inv X pins σ H s) (r : Vals vs us)
    (h : ∀ x dx, H x = none → H dx = none → dx ≠ x → sp (.ref x :: vs) (upd (upd H dx (.own x)) x (.ins C dx [])) (fun v H2 => v = .non ∧ Q (.ref x) H2) (E σ)) :
    wpAny (model X.prog X.w) X.A (call (.ref C) us) (EP X pins σ Q) X.xe s := by
  have hq := h (s.heap.objs.size + 1) s.heap.objs.size (I.hok.fresh (Nat.le_succ _)) (I.hok.fresh (Nat.le_refl _)) (Nat.ne_of_lt (Nat.lt_succ_self _))
  have I2 := Inv.made (C := C) I
  have r2 : Vals (V.ref (s.heap.objs.size + 1) :: vs) (Value.ref (s.heap.objs.size + 1) :: us) := .cons rfl r
  have hl : (Value.ref (s.heap.objs.size + 1) :: us).length = ps.length := by
    have e := r2.length
    rw [F.len _ _ _ _ hq] at e
    exact e.symm
  have b := hb _ (Value.ref (s.heap.objs.size + 1) :: us) I2.kIn (by rw [List.append_nil]; exact hl)
  rw [List.append_nil] at b
  refine wpAny_call (make_map (f := f) I.kIn M.makes M.init (beq_iff_eq.mp M.fn) (codeAny_mono (F.run _ X.stack _ _ ⟨Value.ref (s.heap.objs.size + 1) :: us, []⟩ (Value.ref (s.heap.objs.size + 1) :: us) _ _ (E σ) (hr.make C us [])
    (I2.env0.make C us []) b r2 hq) fun r s' hq' => ?_))
  cases r with
  | error e => exact hx pins _ _ e s' I2 hq'
  | ok fl =>
    cases fl with
    | ret u =>
      obtain ⟨v, H', I3, rv, ev, q3⟩ := I2.after hq'
      subst ev
      exact ⟨rv, ⟨V.ref (s.heap.objs.size + 1), H', I3, rfl, q3⟩⟩
    | next => exact False.elim hq'
    | brk => exact False.elim hq'
    | cont => exact False.elim hq'
theorem pe_makeS {CX : CXT} {k : Nat} {C f : Addr} {fd : FuncData} {ps : List Str} {sp : Sp} {E : L2.St → XK} {x : Str} {p pos : Pos} {e : Expr} {es : List Expr} {t : TA} (M : Mk X.K C f) (F : FnOk X.prog X.w X.K X.mg X.base CX k f fd ps sp) (hr : Room (k + 1) X.A) (hg : Gl X x) (hm : X.mg x = some (.ref C)) (hb : Binds X.K fd ps []) (hx : ∀ σ, PassesAt CX X σ (E σ))
    (ha : PA X (e :: es) t) (hdb : (x == ("__debug__" : Str)) = false := by decide) (he : starEach (e :: es) X.env = (false, eval e X.env) :: starEach es X.env := by rfl) (hpl : (backTo pos (starEach es X.env)).any (·.1) = false := by rfl) :
    PE X (.Call (.Name x p) (e :: es) [] pos) (fun σ H Q => t σ H fun vs H1 => ∀ x dx, H1 x = none → H1 dx = none → dx ≠ x → sp (.ref x :: vs) (upd (upd H1 dx (.own x)) x (.ins C dx [])) (fun v H2 => v = .non ∧ Q (.ref x) H2) (E σ)) := by
  refine ⟨fun pins s σ H Q I h => ?_⟩
  refine wpAny_Call_Name_kw (ld_glob I hg hm ?_ hdb)
  refine PySem.W.callWith_K (h₀ := X.base) I.ok.mod.kin M.kp (thn (ha.run pos pins s σ H _ I h) fun us s1 ⟨vs, H1, I1, r, q⟩ => ⟨I1.kIn, ?_⟩) he hpl
  exact run_makeS M F hr hb (hx σ) I1 r q
def dMake (c : Tx) (D : DF) (r : DenG (List Val)) : Den := fun l h => (r l h).bind fun vs h1 => (D (.ref h1.length :: vs) (h1 ++ [.ins c []])).bind fun v h2 => match v with
  | .non => .ok (.ref h1.length) h2
  | _ => .fail
theorem ge_make (c : Tx) {D : DF} {k n : Nat} {ps : List Str} {x : Str} {p pos : Pos} {e : Expr} {es : List Expr} {da : DenG (List Val)} (F : FnM X.prog X.w X.K X.mg X.base k D c [95, 95, 105, 110, 105, 116, 95, 95] ps) (M : Mk X.K (clsA X.K c) (He.ma X.K (clsA X.K c) (sOf [95, 95, 105, 110, 105, 116, 95, 95]))) (hm : X.mg x = some (.ref (clsA X.K c))) (hr : Room (k + 1) X.A) (tk : Takes X W) (ha : GAN X W (e :: es) n da)
    (hn : n + 1 = ps.length := by rfl) (hg : Gl X x := by rfl) (hdb : (x == ("__debug__" : Str)) = false := by decide +kernel)
    (he : starEach (e :: es) X.env = (false, eval e X.env) :: starEach es X.env := by rfl) (hpl : (backTo pos (starEach es X.env)).any (·.1) = false := by rfl) : GE X W (.Call (.Name x p) (e :: es) [] pos) (dMake c D da) := by
  obtain ⟨fd, F1, b⟩ := F.ok
  refine PE.imp (pe_makeS M F1 hr hg hm b (fun σ => passAt tk σ) ha.ga hdb he hpl) fun σ H Q ⟨g, l, h, S, R, A⟩ => ?_
  refine ⟨g, l, h, S, R, ?_⟩
  unfold dMake at A
  cases ed : da l h with
  | ok vs h1 =>
    rw [ed] at A
    intro g1 H1 ws E R1 r x dx nx ndx ne
    obtain ⟨Ea, Ra⟩ := R1.grow (o := .own x) ndx
    have nx2 : upd H1 dx (.own x) x = none := by rw [upd_ne (Ne.symm ne)]; exact nx
    obtain ⟨Eb, Rb⟩ := Ra.push (o := .ins (clsA X.K c) dx []) (ob := .ins c []) nx2 ⟨dx, [], upd_same, rfl, VRs.nil⟩
    have A2 := After.ext (E.trans (Ea.trans Eb)) A
    simp only [Res.bind_ok] at A2
    have rx : VR X.K ⟨g1.m ++ [x], g1.r⟩ (upd (upd H1 dx (.own x)) x (.ins (clsA X.K c) dx [])) (.ref h1.length) (.ref x) := by
      simp only [VR]
      refine ⟨x, rfl, ?_⟩
      rw [← R1.len]
      simp
    refine spG_of (W := W) (σ := σ) (args := .ref h1.length :: vs) (by rw [List.length_cons, ha.len l h vs h1 ed, hn]) Rb (VRs.cons rx (r.ext R1 (Ea.trans Eb))) ?_
    cases eD : D (.ref h1.length :: vs) (h1 ++ [.ins c []]) with
    | ok v h2 =>
      rw [eD] at A2
      simp only [Res.bind_ok] at A2
      intro g' H' x' E' R' r'
      cases v with
      | non =>
        simp only [VR] at r'
        exact ⟨r', A2 g' H' _ E' R' (rx.ext Rb E')⟩
      | _ => exact A2.elim
    | exc y h2 => rw [eD] at A2; exact A2
    | fail => rw [eD] at A2; exact A2
  | exc x h1 => rw [ed] at A; exact A
  | fail => rw [ed] at A; exact A
end
theorem levels2 {P : Program} {w : World} {K : PySem.W.Frag} {mg : Str → Option Value} {base : Heap} {sig : List (Str × List Str)} {msig : List (Tx × Tx × List Str)} {n0 : Nat} {D : Gam → Gam}
    (h0 : ∀ (j : Nat) (x : Str) (ps : List Str), sig[j]? = some (x, ps) → mg x = some (.ref (He.ga K x)) ∧ PySem.W.keepIn K (.ref (He.ga K x)) = true ∧ ∃ fd, Binds K fd ps [])
    (m0 : ∀ (j : Nat) (c m : Tx) (ps : List Str), msig[j]? = some (c, m, ps) → Meth K (clsA K c) (sOf m) (He.ma K (clsA K c) (sOf m)) ∧ ∃ fd, Binds K fd ps [])
    (step : ∀ k Γ, AllK P w K mg base sig k Γ → AllM P w K mg base msig n0 k Γ → (∀ (j : Nat) (x : Str) (ps : List Str), sig[j]? = some (x, ps) → FnK P w K mg base (k + 2) (D Γ j) x ps) ∧ ∀ (j : Nat) (c m : Tx) (ps : List Str), msig[j]? = some (c, m, ps) → FnM P w K mg base (k + 2) (D Γ (n0 + j)) c m ps) :
    ∀ k, AllK P w K mg base sig (2 * k) (lev D k) ∧ AllM P w K mg base msig n0 (2 * k) (lev D k)
  | 0 => ⟨fun j x ps e => by
    obtain ⟨g, kp, fd, b⟩ := h0 j x ps e
    refine ⟨⟨fd, ⟨fun vs H Q E h => h.1, fun A outer s H args us vs Q E hr he hb hv hs => ?_⟩, b⟩, g, kp⟩
    obtain ⟨_, _, _, _, _, _, z⟩ := hs
    exact z.elim, fun j c m ps e => by
    obtain ⟨me, fd, b⟩ := m0 j c m ps e
    refine ⟨⟨fd, ⟨fun vs H Q E h => h.1, fun A outer s H args us vs Q E hr he hb hv hs => ?_⟩, b⟩, me⟩
    obtain ⟨_, _, _, _, _, _, z⟩ := hs
    exact z.elim⟩
  | k + 1 => step (2 * k) _ (levels2 h0 m0 step k).1 (levels2 h0 m0 step k).2
section
variable {X : Cx} {W : WX}
theorem ge_extend {o e : Expr} {dx de : Den} {apos cpos : Pos} (ho : GE X W o dx) (he : GE X W e de) (hbase : attributeBase o "extend" X.env (eval o X.env) = eval o X.env := by rfl)
    (hfew : ((backTo cpos (starEach [e] X.env)).all (fun x => !x.1) && (backToKw cpos (keywordEach [] X.env)).all (fun x => x.1.isSome)
      && decide (([e] : List Expr).length + ([] : List Keyword).length + (if ([] : List Keyword).isEmpty then 0 else 1) < 30)) = true := by rfl)
    (hline : (apos.endLine == cpos.line) = true := by rfl) (hs : starEach [e] X.env = (false, eval e X.env) :: starEach [] X.env := by rfl) (hplain : (backTo cpos (starEach [] X.env)).any (·.1) = false := by rfl) :
    GE X W (.Call (.Attribute o "extend" apos) [e] [] cpos) (dMeth1 isLst (fun x v h => if (lstOf h v).isSome then vExtend x v h else .fail) dx de) := ge_meth1 m1_extend_l PySem.F.plainAttrs_list PySem.F.slot_list_extend PySem.F.type_list_extend ho he hbase hfew hline hs hplain
end
end GH
set_option Elab.async false
set_option linter.all false
set_option maxRecDepth 100000
set_option maxHeartbeats 4000000
set_option autoImplicit false
/-! exceptions with one field of their own: raise C(e), except C as x: return x.f; xs.index(n). -/
namespace GH
open PySem PySem.Spec PyProof.Rows L2
variable [TheWorld]
/-! the class -/
def oexB (K : PySem.W.Frag) (C : Addr) : Bool := (match K.lookup C with
  | some ⟨.type "type", _, .cls cd, sl⟩ => (match cd.mro, sl.toList with
    | .ref D :: bm, [_, _, _, _, some (.builtin n), _] => D == C && n == "ValueError.__new__" && !cd.hasDel && cd.hasDict && PySem.HandSPX.refsVE bm
    | _, _ => false)
  | _ => false) && decide (PySem.W.findIn K (.ref C) "__setattr__" = some (some (.builtin "object.__setattr__"))) && decide (PySem.W.subIn K (.ref C) (.type "BaseException") = some true) && decide (PySem.W.typeIn K (.ref C) = some (.type "type")) && PySem.W.keepIn K (.ref C)
theorem oexB_ok {K : PySem.W.Frag} {C : Addr} (h : oexB K C = true) : OexC K C := by
  unfold oexB at h
  simp only [Bool.and_eq_true, decide_eq_true_eq] at h
  obtain ⟨⟨⟨⟨h1, h2⟩, h3⟩, h4⟩, h5⟩ := h
  refine ⟨?_, h2, h3, h4, h5⟩
  split at h1
  · rename_i dd cd sl ho
    split at h1
    · rename_i D bm k0 k1 k2 k3 n k5 hm hs
      simp only [Bool.and_eq_true, beq_iff_eq, Bool.not_eq_true'] at h1
      obtain ⟨⟨⟨⟨rfl, rfl⟩, hdel⟩, hdct⟩, ht⟩ := h1
      obtain ⟨nm, bs, mro, ns, qn, hd, sn, sub, ab, col, del⟩ := cd
      dsimp only at hm hdel hdct
      subst hm hdel hdct
      obtain ⟨l⟩ := sl
      simp only at hs
      subst hs
      exact ⟨nm, qn, ns, bs, bm, sn, sub, ab, col, dd, k0, k1, k2, k3, k5, ho, ht⟩
    · cases h1
  · cases h1
/-- what the maker keeps: the field stands -/
def spI (C : Addr) (f : Str) : Sp := fun vs H Q _ => ∃ (a : Addr) (v : V), vs = [.ref a, v] ∧ H a = some (exo a C none) ∧ ∀ dx, H dx = none → dx ≠ a → Q .non (upd (upd H dx (exd dx [(f, v)])) a (exo a C (some dx)))
def tInit (K : PySem.W.Frag) (f : Str) : TS := tOst K f (tVar 0) (tVar 1)
theorem init_pure {K : PySem.W.Frag} {C : Addr} {f : Str} {N : List Str} (T : OexC K C) (hno : PySem.W.findIn K (.ref C) f = some none) (hN : N.length = 2) {vs : List V} {H : Hp} {Q : VK} {E : XK} (h : spI C f vs H Q E) : tInit K f { nx := fun _ H' => Q .non H', rt := Q } (L2.start N vs) H := by
  obtain ⟨a, v, rfl, e, q⟩ := h
  match N, hN with
  | [_, _], _ => exact ⟨v, rfl, .ref a, rfl, a, C, rfl, T, hno, .inl ⟨e, fun dx n ne => q dx n ne⟩⟩
/-- the way of C(e): what the heap is then -/
theorem made_heap {H : Hp} {a d C : Addr} {f : Str} {v : V} (ha : H a = none) (hd : d ≠ a) : upd (del (upd (upd (upd H a (exo a C none)) d (exd d [(f, v)])) a (exo a C (some d))) a) d (.xd [(f, v)]) = upd H d (.xd [(f, v)]) := by
  funext b
  by_cases hb : b = d
  · subst hb
    rw [upd_same, upd_same]
  · rw [upd_ne hb, upd_ne hb]
    by_cases ha' : b = a
    · subst ha'
      rw [del_same, ha]
    · rw [del_ne ha', upd_ne ha', upd_ne hb, upd_ne ha']
section
variable {X : Cx} {W : WX}
/-- raise C(e): C keeps e as f -/
def sRaiseF (c f : List Nat) (de : Den) : Stm := fun l h => (de l h).to l fun v h1 => .exc ⟨c, [(f, v)]⟩ l h1
theorem gs_raiseF (c f : List Nat) {x : Str} {e : Expr} {de : Den} {fI : Addr} {fd : FuncData} {ps : List Str} {p pos pos2 : Pos} (hc : X.calm = true) (tk : Takes X W) (T : OexC X.K (clsA X.K c)) (iC : PySem.W.findIn X.K (.ref (clsA X.K c)) "__init__" = some (some (.ref fI))) (tI : PySem.W.typeIn X.K (.ref fI) = some (.type "function"))
    (F1 : FnOk X.prog X.w X.K X.mg X.base CX0 1 fI fd ps (spI (clsA X.K c) (sOf f))) (hb : Binds X.K fd ps []) (hr : Room 2 X.A) (hm : X.mg x = some (.ref (clsA X.K c))) (he : GE X W e de) (hg : Gl X x := by rfl) (hdb : (x == ("__debug__" : Str)) = false := by decide +kernel)
    (h1 : starEach (e :: []) X.env = (false, eval e X.env) :: starEach [] X.env := by rfl) (h2 : (backTo pos (starEach [] X.env)).any (·.1) = false := by rfl) :
    GS X W (.Raise (some (.Call (.Name x p) [e] [] pos)) none pos2) (sRaiseF c f de) := by
  refine PS.imp (ps_raise hc tk (pmk_oex T iC tI F1 hr hb .nil (fun _ _ _ _ _ _ _ z => z.elim) hg hm (pa_cons he pa_nil h1) hdb h1 h2)) fun D σ H ⟨g, l, h, S, R, A⟩ => ?_
  refine tG_to S R A fun v h1 g1 H1 y E S1 R1 r1 A1 => ?_
  refine ⟨by simp, fun a na => ⟨a, y, rfl, upd_same, fun dx nd ne => ⟨rfl, dx, [(sOf f, y)], upd_same, by rw [upd_ne ne, upd_same], ?_, ?_⟩⟩⟩
  · rw [upd_ne ne] at nd
    exact nd
  · rw [upd_ne ne] at nd
    rw [made_heap na ne]
    obtain ⟨Ea, Ra⟩ := R1.grow (o := .xd [(sOf f, y)]) nd
    refine A1 g1 _ σ _ (some dx) Ea Ra (S1.ext R1 Ea) ⟨rfl, dx, [(sOf f, y)], rfl, ?_, upd_same, FR.cons (p := (f, v)) (r1.ext R1 Ea) ⟨rfl, VRs.nil⟩⟩
    rintro (hz | hz)
    · rcases R1.kind hz with ⟨_, e⟩ | ⟨_, e⟩ | ⟨_, _, _, e⟩ | ⟨_, e⟩ | ⟨_, e⟩ <;> rw [nd] at e <;> cases e
    · obtain ⟨_, e, _⟩ := R1.al _ hz
      rw [nd] at e; cases e
/-- try: body; except C as x: return x.f -/
def sTryFld (i : Nat) (c f : List Nat) (body : Stm) : Stm := fun l h => match body l h with
  | .exc e l1 h1 => if e.c = c ∧ i < l1.length then (match fget f e.fs with
    | some v => .rt v h1
    | none => .fail) else .fail
  | r => r
theorem gs_tryFld (c f : List Nat) {i : Nat} {x nm xf : Str} {body : List Stmt} {np np2 pos pos' pos4 rp : Pos} {db : Stm}
    (hs : X.stack = X.env :: X.outer) (hf : X.env.frame = some X.env.locals) (hN : X.N.Nodup) (hi : X.N[i]? = some nm) (hln : X.env.kindOf nm = some .local)
    (hc : Names X x (.ref (clsA X.K c))) (tk : Takes X W) (hm : PySem.W.exmOne X.K (.ref (clsA X.K c)) (.ref (clsA X.K c)) = some true) (T : XfC X.K (clsA X.K c)) (hno : PySem.W.findIn X.K (.ref (clsA X.K c)) (sOf f) = some none)
    (hb : ∀ (W' : WX) (pn : List (Addr × Obj)) (xe : Value → Shared → Prop), Takes (X.tr pn xe) W' → PassesOwn (model X.prog X.w) X.A X.env xe → GSs (X.tr pn xe) W' body db)
    (hdn : (nm == ("__debug__" : Str)) = false := by decide +kernel) (hdc : (nm == ("__classdict__" : Str)) = false := by decide +kernel)
    (hba : attributeBase (.Name nm np2) (sOf f) X.env (eval (.Name nm np2) X.env) = eval (.Name nm np2) X.env := by rfl) (hxf : xf = sOf f := by rfl) :
    GS X W (.Try body [.ExceptHandler (some (.Name x np)) (some nm) [.Return (some (.Attribute (.Name nm np2) xf rp)) pos4] pos'] [] [] pos) (sTryFld i c f db) := by
  subst hxf
  refine PS.imp (ps_try_as (i := i) (tb := fun W' => tS X.K W' db)
    (ts := fun a cls d => fun D σ H => σ[i]? = some (some (.ref a)) ∧ cls = .ref (clsA X.K c) ∧ ∃ (dd : Addr) (fs : List (Str × V)) (v : V), d = some dd ∧ H dd = some (.xd fs) ∧ fs.lookup (sOf f) = some v ∧ D.rt v H) hs hf hN hi hln hc tk hb (fun a oe cls d pn hz hfd => ?_)) fun D σ H ⟨g, l, h, S, R, AA⟩ => ?_
  · refine ⟨fun pins s σ H D I ⟨e1, e2, dd, fs, v, e3, e4, e5, q⟩ => ?_⟩
    have hv : PE (X.suite a ((a, oe) :: pn)) (.Name nm np2) (tVar i) := pe_var hi (.inl hln) hdn hdc
    refine (pss_one (ps_ret (pe_xf (pos := rp) T hno hz hfd hv hba))).run pins s σ H D I ?_
    exact ⟨_, e1, rfl, e2, dd, fs, v, e3, e4, e5, q⟩
  · refine ⟨g, l, h, S, R, ?_⟩
    unfold sTryFld at AA
    cases e : db l h with
    | nx l1 h1 => rw [e] at AA; exact AA
    | bk l1 h1 => rw [e] at AA; exact AA
    | ct l1 h1 => rw [e] at AA; exact AA
    | rt l1 h1 => rw [e] at AA; exact AA
    | fail => rw [e] at AA; exact AA
    | exc x1 l1 h1 =>
      rw [e] at AA
      simp only at AA
      split at AA
      · rename_i hcc
        split at AA
        · rename_i v hv
          intro g' H' σ' cls d E R' S' re
          obtain ⟨k1, k2⟩ := re
          rw [hcc.1] at k1
          have hlen : i < σ'.length := by rw [← S'.len]; exact hcc.2
          cases hfs : x1.fs with
          | nil => rw [hfs] at hv; cases hv
          | cons p r =>
            rw [hfs] at k2 hv
            obtain ⟨dd, gs, k3, k4, k5, k6⟩ := k2
            obtain ⟨y, e1, r1⟩ := (FR.get k6).1 v hv
            subst k1
            refine ⟨true, hm, fun _ a na => ⟨by rw [List.getElem?_set_self hlen], rfl, dd, gs, y, k3, k5, e1, AA g' H' _ E R' r1⟩, fun z => by cases z⟩
        · exact AA.elim
      · exact AA.elim
/-- xs.index(n), whole numbers -/
def intsOf' : List Val → Option (List Int)
  | [] => some []
  | .int i :: r => (intsOf' r).map (i :: ·)
  | _ => none
def vIndex (x u : Val) (h : Hv) : Res Val := match lstOf h x, u with
  | some l, .int n => (match intsOf' l with
    | some ns => (match ns.idxOf? n with
      | some j => .ok (.int j) h
      | none => .fail)
    | none => .fail)
  | _, _ => .fail
theorem ints_rel {K : PySem.W.Frag} {g : Gh} {H : Hp} : ∀ {l : List Val} {ns : List Int} {xs : List V}, intsOf' l = some ns → VRs K g H l xs → xs = ns.map V.int
  | [], ns, xs, e, r => by
    cases e
    exact r
  | v :: l, ns, xs, e, r => by
    simp only [VRs] at r
    obtain ⟨x, xs', rfl, r1, r2⟩ := r
    cases v with
    | int i =>
      simp only [intsOf', Option.map_eq_some_iff] at e
      obtain ⟨ns', e', rfl⟩ := e
      simp only [VR] at r1
      rw [r1, ints_rel e' r2]
      rfl
    | _ => cases e
theorem m1_index : M1R X "list" "list.index" isLst vIndex := ⟨fun g H h v x R r e => lst_ty R r e, _, mt_index, fun W g H h σ v u x y Q R rv ru A => by
  unfold vIndex at A
  split at A
  · rename_i l n hl
    split at A
    · rename_i ns hns
      split at A
      · rename_i j hj
        obtain ⟨a, xs, rfl, s, rs⟩ := lstOf_ok R rv hl
        simp only [VR] at ru
        subst ru
        have ex := ints_rel hns rs
        subst ex
        obtain ⟨hlt, h1, h2⟩ := List.idxOf?_eq_some_iff.mp hj
        refine ⟨a, _, _, j, .int n, rfl, rfl, SqL.of s, rfl, ?_, ?_, by simp [eqV], ?_, A g H _ Ext.refl R (by simp only [VR])⟩
        · simp [flatV]
        · rw [List.getElem?_map, List.getElem?_eq_getElem hlt]
          simp [h1]
        · intro m z' hm hz
          rw [List.getElem?_map] at hz
          obtain ⟨w, hw, rfl⟩ := Option.map_eq_some_iff.mp hz
          have := h2 m hm
          obtain ⟨hml, hw⟩ := List.getElem?_eq_some_iff.mp hw
          rw [hw] at this
          simpa [eqV] using this
      · exact A.elim
    · exact A.elim
  · exact A.elim⟩
theorem ge_index {o e : Expr} {dx de : Den} {apos cpos : Pos} (ho : GE X W o dx) (he : GE X W e de) (hbase : attributeBase o "index" X.env (eval o X.env) = eval o X.env := by rfl)
    (hfew : ((backTo cpos (starEach [e] X.env)).all (fun x => !x.1) && (backToKw cpos (keywordEach [] X.env)).all (fun x => x.1.isSome)
      && decide (([e] : List Expr).length + ([] : List Keyword).length + (if ([] : List Keyword).isEmpty then 0 else 1) < 30)) = true := by rfl)
    (hline : (apos.endLine == cpos.line) = true := by rfl) (hs : starEach [e] X.env = (false, eval e X.env) :: starEach [] X.env := by rfl) (hplain : (backTo cpos (starEach [] X.env)).any (·.1) = false := by rfl) :
    GE X W (.Call (.Attribute o "index" apos) [e] [] cpos) (dMeth1 isLst vIndex dx de) := ge_meth1 m1_index PySem.F.plainAttrs_list PySem.F.slot_list_index PySem.F.type_list_index ho he hbase hfew hline hs hplain
/-- the maker's promise and its names, as one -/
def InitOk (P : Program) (w : World) (K : PySem.W.Frag) (mg : Str → Option Value) (base : Heap) (C fI : Addr) (ps : List Str) (f : Str) : Prop := ∃ fd, FnOk P w K mg base CX0 1 fI fd ps (spI C f) ∧ Binds K fd ps []
theorem gs_raiseI (c f : List Nat) {x fs : Str} {e : Expr} {de : Den} {fI : Addr} {ps : List Str} {p pos pos2 : Pos} (hc : X.calm = true) (tk : Takes X W) (T : OexC X.K (clsA X.K c)) (me : Meth X.K (clsA X.K c) "__init__" fI)
    (F1 : InitOk X.prog X.w X.K X.mg X.base (clsA X.K c) fI ps fs) (hr : Room 2 X.A) (hm : X.mg x = some (.ref (clsA X.K c))) (he : GE X W e de) (hfs : fs = sOf f := by decide +kernel) (hg : Gl X x := by rfl) (hdb : (x == ("__debug__" : Str)) = false := by decide +kernel)
    (h1 : starEach (e :: []) X.env = (false, eval e X.env) :: starEach [] X.env := by rfl) (h2 : (backTo pos (starEach [] X.env)).any (·.1) = false := by rfl) :
    GS X W (.Raise (some (.Call (.Name x p) [e] [] pos)) none pos2) (sRaiseF c f de) := by
  subst hfs
  obtain ⟨fd, F1, hb⟩ := F1
  exact gs_raiseF c f hc tk T me.at_ (beq_iff_eq.mp me.fn) F1 hb hr hm he hg hdb h1 h2
end
/-- levels that begin above 0 -/
theorem levels3 {P : Program} {w : World} {K : PySem.W.Frag} {mg : Str → Option Value} {base : Heap} {sig : List (Str × List Str)} {msig : List (Tx × Tx × List Str)} {n0 : Nat} {D : Gam → Gam}
    (h0 : ∀ (j : Nat) (x : Str) (ps : List Str), sig[j]? = some (x, ps) → mg x = some (.ref (He.ga K x)) ∧ PySem.W.keepIn K (.ref (He.ga K x)) = true ∧ ∃ fd, Binds K fd ps [])
    (m0 : ∀ (j : Nat) (c m : Tx) (ps : List Str), msig[j]? = some (c, m, ps) → Meth K (clsA K c) (sOf m) (He.ma K (clsA K c) (sOf m)) ∧ ∃ fd, Binds K fd ps [])
    (step : ∀ k Γ, 1 ≤ k → AllK P w K mg base sig k Γ → AllM P w K mg base msig n0 k Γ → (∀ (j : Nat) (x : Str) (ps : List Str), sig[j]? = some (x, ps) → FnK P w K mg base (k + 2) (D Γ j) x ps) ∧ ∀ (j : Nat) (c m : Tx) (ps : List Str), msig[j]? = some (c, m, ps) → FnM P w K mg base (k + 2) (D Γ (n0 + j)) c m ps) :
    ∀ k, AllK P w K mg base sig (2 * k + 1) (lev D k) ∧ AllM P w K mg base msig n0 (2 * k + 1) (lev D k)
  | 0 => ⟨fun j x ps e => by
    obtain ⟨g, kp, fd, b⟩ := h0 j x ps e
    refine ⟨⟨fd, ⟨fun vs H Q E h => h.1, fun A outer s H args us vs Q E hr he hb hv hs => ?_⟩, b⟩, g, kp⟩
    obtain ⟨_, _, _, _, _, _, z⟩ := hs
    exact z.elim, fun j c m ps e => by
    obtain ⟨me, fd, b⟩ := m0 j c m ps e
    refine ⟨⟨fd, ⟨fun vs H Q E h => h.1, fun A outer s H args us vs Q E hr he hb hv hs => ?_⟩, b⟩, me⟩
    obtain ⟨_, _, _, _, _, _, z⟩ := hs
    exact z.elim⟩
  | k + 1 => step (2 * k + 1) _ (by omega) (levels3 h0 m0 step k).1 (levels3 h0 m0 step k).2
end GH
set_option Elab.async false
set_option linter.all false
set_option maxRecDepth 100000
set_option maxHeartbeats 4000000
set_option autoImplicit false
/-! str of a text, str of a whole number. -/
namespace GH
open PySem PySem.Spec PyProof.Rows L2
variable [TheWorld]
variable {X : Cx}
def vStr (v : Val) (h : Hv) : Res Val := match v with
  | .str s => .ok (.str s) h
  | v => vStrI v h
theorem call_str2 : CallR X (.type "str") (fun xs H Q => (∃ a, xs = [.str a] ∧ Q (.str a) H) ∨ ∃ i : Int, xs = [.int i] ∧ i.natAbs.log2 < 1920 ∧ Q (.str (toString i)) H) := by
  intro pins s σ H xs us Q I r h
  rcases h with h | h
  · exact SkE.call_str_str pins s σ H xs us Q I r h
  · exact call_str_int pins s σ H xs us Q I r h
theorem c1_strS : C1 X (.type "str") vStr := ⟨_, call_str2, fun W g H h σ v x Q R r A => by
  unfold vStr at A
  split at A
  · simp only [VR] at r
    subst r
    exact .inl ⟨_, rfl, A g H _ Ext.refl R (by simp only [VR])⟩
  · unfold vStrI at A
    split at A
    · split at A
      · rename_i hz
        simp only [VR] at r
        subst r
        refine .inr ⟨_, rfl, hz, A g H _ Ext.refl R ?_⟩
        simp only [VR]
        exact congrArg V.str (by generalize Str.ofString _ = s; cases s; rfl)
      · exact A.elim
    · exact A.elim⟩
end GH
set_option Elab.async false
set_option linter.all false
set_option maxRecDepth 100000
set_option maxHeartbeats 1000000
set_option autoImplicit false
/-! a lambda without parameters that is handed to a def which calls it once and catches one class. -/
namespace GH
open PySem PySem.Spec PyProof.Rows L2 LamX
variable [TheWorld]
/-- what the def makes of the lambda: f of its value, ret where it raises -/
def TTg (K : PySem.W.Frag) (CS : Addr) (f : V → V) (ret : V) : (XK → Hp → VK → Prop) → Hp → VK → Prop := fun tl H Q =>
  tl (fun cls _ H' => PySem.W.exmOne K cls (.ref CS) = some true ∧ Q ret H') H fun v H' => Q (f v) H'
section
variable {X : Cx} {Ng : List Str} {x a e q : Str} {sg : Scope} {g CS : Addr} {cdg : Value} {j j2 : Nat} {p1 p2 p3 p4 p5 p6 p7 p8 p9 pa : Pos}
/-- try: return a() / except e: return None -/
theorem told_non (hge : sg.names.lookup e = some .globalImplicit) (hme : X.mg e = some (.ref CS)) (h0 : ∀ f : Addr, (L2.start Ng [V.ref f])[0]? = some (some (V.ref f))) (hde : (e == ("__debug__" : Str)) = false := by decide +kernel) :
    GivesTo X Ng x sg g cdg [.Try [.Return (some (.Call (.Name a p1) [] [] p2)) p3] [.ExceptHandler (some (.Name e p4)) none [.Return (some (.Constant .none j p5)) p6] p7] [] [] p8] a q (TTg X.K CS (fun v => v) .non) := by
  intro f c' s H Q tl act hc h
  have gl : Gl (cxOf C8.CX0 X.prog X.w X.K X.mg X.base Ng x sg g cdg X.A X.stack s H C8.E0).nox e := hge
  have inner : ∀ (W : WX) (pn : List (Addr × Obj)) (xe : Value → Shared → Prop), Takes ((cxOf C8.CX0 X.prog X.w X.K X.mg X.base Ng x sg g cdg X.A X.stack s H C8.E0).tr pn xe) W →
      PSs ((cxOf C8.CX0 X.prog X.w X.K X.mg X.base Ng x sg g cdg X.A X.stack s H C8.E0).tr pn xe) [.Return (some (.Call (.Name a p1) [] [] p2)) p3]
        (fun D σ H => ∃ Eh : XK, (∀ cls d σ' H', Eh cls d H' → W cls d σ' H') ∧ σ[0]? = some (some (.ref f)) ∧ H c' = some (CodeO c' q) ∧ tl Eh H D.rt) := fun W pn xe tk =>
    ⟨fun pins s' σ H' D I ⟨Eh, hW, h1, h2, h3⟩ => (pss_one (ps_ret (pos := p3) (act W pn xe Eh p1 p2 tk hW))).run pins s' σ H' D I ⟨h1, h2, h3⟩⟩
  refine ⟨_, pss_one (ps_try_only (X := (cxOf C8.CX0 X.prog X.w X.K X.mg X.base Ng x sg g cdg X.A X.stack s H C8.E0).nox) (c := .ref CS) rfl rfl ⟨gl, hde, .inl hme⟩ LamX.takes0 (fun W pn xe tk _ => inner W pn xe tk) fun a oe cls d pn _ _ => pss_one (ps_ret pe_non)), ?_⟩
  exact ⟨_, fun cls d σ' H' z => ⟨true, z.1, fun _ a _ => z.2, fun hb => nomatch hb⟩, h0 f, hc, h⟩
/-- try: a() / except e: return True / return False -/
theorem told_ref (hge : sg.names.lookup e = some .globalImplicit) (hme : X.mg e = some (.ref CS)) (h0 : ∀ f : Addr, (L2.start Ng [V.ref f])[0]? = some (some (V.ref f))) (hde : (e == ("__debug__" : Str)) = false := by decide +kernel)
    (hsw : ∀ (env : Env), swapsWith (.Call (.Name a p1) [] [] p2) none p3.line env = pure false := by intro env; rfl) :
    GivesTo X Ng x sg g cdg [.Try [.Expr (.Call (.Name a p1) [] [] p2) p3] [.ExceptHandler (some (.Name e p4)) none [.Return (some (.Constant (.bool true) j p5)) p6] p7] [] [] p8, .Return (some (.Constant (.bool false) j2 p9)) pa] a q (TTg X.K CS (fun _ => .bl false) (.bl true)) := by
  intro f c' s H Q tl act hc h
  have gl : Gl (cxOf C8.CX0 X.prog X.w X.K X.mg X.base Ng x sg g cdg X.A X.stack s H C8.E0).nox e := hge
  have inner : ∀ (W : WX) (pn : List (Addr × Obj)) (xe : Value → Shared → Prop), Takes ((cxOf C8.CX0 X.prog X.w X.K X.mg X.base Ng x sg g cdg X.A X.stack s H C8.E0).tr pn xe) W →
      PSs ((cxOf C8.CX0 X.prog X.w X.K X.mg X.base Ng x sg g cdg X.A X.stack s H C8.E0).tr pn xe) [.Expr (.Call (.Name a p1) [] [] p2) p3]
        (fun D σ H => ∃ Eh : XK, (∀ cls d σ' H', Eh cls d H' → W cls d σ' H') ∧ σ[0]? = some (some (.ref f)) ∧ H c' = some (CodeO c' q) ∧ tl Eh H fun _ H' => D.nx σ H') := fun W pn xe tk =>
    ⟨fun pins s' σ H' D I ⟨Eh, hW, h1, h2, h3⟩ => (pss_one (ps_expr (pos := p3) (act W pn xe Eh p1 p2 tk hW) (hsw _))).run pins s' σ H' D I ⟨h1, h2, h3⟩⟩
  refine ⟨_, pss_cons (ps_try_only (X := (cxOf C8.CX0 X.prog X.w X.K X.mg X.base Ng x sg g cdg X.A X.stack s H C8.E0).nox) (c := .ref CS) rfl rfl ⟨gl, hde, .inl hme⟩ LamX.takes0 (fun W pn xe tk _ => inner W pn xe tk) fun a oe cls d pn _ _ => pss_one (ps_ret pe_bl)) (pss_one (ps_ret pe_bl)), ?_⟩
  exact ⟨_, fun cls d σ' H' z => ⟨true, z.1, fun _ a _ => z.2, fun hb => nomatch hb⟩, h0 f, hc, h⟩
end
/-! ### the tables of ours -/
/-- the tables of the small heap -/
def tabsOf : Hv → List Addr → List (Addr × Str)
  | .tbl q :: h, a :: m => (a, qualL q) :: tabsOf h m
  | _ :: h, _ :: m => tabsOf h m
  | _, _ => []
theorem tabsOf_mem : ∀ {h : Hv} {m : List Addr} {p : Addr × Str}, p ∈ tabsOf h m ↔ ∃ (i : Nat) (q : List Nat), h[i]? = some (Ob.tbl q) ∧ m[i]? = some p.1 ∧ p.2 = qualL q
  | [], m, p => by simp [tabsOf]
  | o :: h, [], p => by cases o <;> simp [tabsOf]
  | o :: h, a :: m, p => by
    have ih := tabsOf_mem (h := h) (m := m) (p := p)
    have step : (∃ (i : Nat) (q : List Nat), (o :: h)[i]? = some (.tbl q) ∧ (a :: m)[i]? = some p.1 ∧ p.2 = qualL q) ↔ (∃ q, o = .tbl q ∧ a = p.1 ∧ p.2 = qualL q) ∨ ∃ (i : Nat) (q : List Nat), h[i]? = some (Ob.tbl q) ∧ m[i]? = some p.1 ∧ p.2 = qualL q := by
      constructor
      · rintro ⟨i, q, e1, e2, e3⟩
        cases i with
        | zero => exact .inl ⟨q, by simpa using e1, by simpa using e2, e3⟩
        | succ i => exact .inr ⟨i, q, by simpa using e1, by simpa using e2, e3⟩
      · rintro (⟨q, e1, e2, e3⟩ | ⟨i, q, e1, e2, e3⟩)
        · exact ⟨0, q, by simp [e1], by simp [e2], e3⟩
        · exact ⟨i + 1, q, by simpa using e1, by simpa using e2, e3⟩
    rw [step, ← ih]
    cases o with
    | tbl q =>
      simp only [tabsOf, List.mem_cons]
      constructor
      · rintro (z | z)
        · exact .inl ⟨q, rfl, by rw [z], by rw [z]⟩
        · exact .inr z
      · rintro (⟨q', e1, e2, e3⟩ | z)
        · cases e1
          exact .inl (Prod.ext e2.symm e3)
        · exact .inr z
    | lst l => simp [tabsOf]
    | dic l => simp [tabsOf]
    | ins c f => simp [tabsOf]
    | dn l => simp [tabsOf]
section
variable {K : PySem.W.Frag} {g : Gh} {H H1 : Hp} {h : Hv}
theorem tabs_of (R : HR K g H h) : Tabs (tabsOf h g.m) H := fun p hp => by
  obtain ⟨i, q, e1, e2, e3⟩ := tabsOf_mem.mp hp
  obtain ⟨_, ps, t0, t1, t2⟩ := R.obj i _ _ e1 e2
  rw [e3]
  exact ⟨ps, t0, t1, fun pos cv z => by
    obtain ⟨c, a, b, _⟩ := t2 pos cv z
    exact ⟨c, a, b⟩⟩
theorem tabs_one (R : HR K g H h) {i : Nat} {q : List Nat} {P : Addr} (e1 : h[i]? = some (.tbl q)) (e2 : g.m[i]? = some P) : (P, qualL q) ∈ tabsOf h g.m ∧ ∀ p ∈ tabsOf h g.m, p.1 = P → p.2 = qualL q := by
  refine ⟨tabsOf_mem.mpr ⟨i, q, e1, e2, rfl⟩, fun p hp e => ?_⟩
  obtain ⟨j, q', a1, a2, a3⟩ := tabsOf_mem.mp hp
  obtain ⟨l1, p1⟩ := List.getElem?_eq_some_iff.mp e2
  obtain ⟨l2, p2⟩ := List.getElem?_eq_some_iff.mp a2
  have ij : i = j := (List.getElem_inj R.nd).mp (p1.trans (e.symm.trans p2.symm))
  subst ij
  rw [e1] at a1
  cases a1
  exact a3
theorem codeO_dn {P : Program} {w : World} {s : Heap} (ok : HOk P w H s) {c : Addr} {q : Str} {xs : List NE} (e : H c = some (CodeO c q)) : CodeO c q ≠ DN c xs := fun z => by
  have h1 := (ok c _ e).1
  rw [z] at e
  have h2 := (ok c _ e).1
  obtain ⟨oc, vs, t, a, b, _⟩ := h1
  obtain ⟨o, es, ep, a2, _, b2, _⟩ := h2
  rw [a] at a2
  cases a2
  rw [b] at b2
  cases b2
/-- the lambda is made: all but the tables stays -/
theorem tabs_ext (R : HR K g H h) (nc : ∀ c q xs, H c = some (CodeO c q) → CodeO c q ≠ DN c xs) (eN : ExtN H H1) (T : Tabs (tabsOf h g.m) H1) : Ext g H g H1 ∧ HR K g H1 h := by
  have E : Ext g H g H1 := ⟨⟨[], by simp, by simp⟩, rfl, fun b o e nt _ => eN b o e nt, fun b o e nt => ⟨o, eN b o e nt, nt⟩⟩
  have no : ∀ c q, H1 c = some (CodeO c q) → ¬ g.own c := fun c q e ho => by
    rcases ho with ho | ho
    · obtain ⟨i, hi, ei⟩ := List.getElem_of_mem ho
      have hi' : i < h.length := by rw [← R.len]; exact hi
      have z := R.obj i h[i] c (by simp [hi']) (by rw [← ei]; simp [hi])
      cases ho : h[i] with
      | lst l =>
        rw [ho] at z
        obtain ⟨xs, z, _⟩ := z
        have := eN c _ z (by intro ps z; cases z)
        rw [e] at this
        unfold CodeO at this
        cases this
      | dic l =>
        rw [ho] at z
        obtain ⟨xs, z, _⟩ := z
        have := eN c _ z (by intro ps z; cases z)
        rw [e] at this
        unfold CodeO at this
        cases this
      | ins l f =>
        rw [ho] at z
        obtain ⟨_, xs, z, _⟩ := z
        have := eN c _ z (by intro ps z; cases z)
        rw [e] at this
        unfold CodeO at this
        cases this
      | dn l =>
        rw [ho] at z
        obtain ⟨xs, ys, z, _⟩ := z
        have := eN c _ z (by intro ps z; cases z)
        rw [e] at this
        have e3 : CodeO c q = DN c xs := Option.some.inj this
        exact nc c q xs (by rw [e3]; exact z) e3
      | tbl t =>
        have m : (c, qualL t) ∈ tabsOf h g.m := tabsOf_mem.mpr ⟨i, t, by simp [hi', ho], by rw [← ei]; simp [hi], rfl⟩
        obtain ⟨ps, z, _⟩ := T _ m
        rw [e] at z
        unfold CodeO at z
        cases z
    · obtain ⟨o, z, mu⟩ := R.al c ho
      have nt : ∀ ps, o ≠ .tbl ps := by
        rintro ps rfl
        exact mu
      have := eN c _ z nt
      rw [e] at this
      have e3 : CodeO c q = o := Option.some.inj this
      subst e3
      obtain ⟨xs, e3⟩ := mu
      exact nc c q xs z e3
  refine ⟨E, R.len, R.nd, R.dis, fun a ha => ?_, fun i o a e1 e2 => ?_⟩
  · obtain ⟨o, z, mu⟩ := R.al a ha
    exact ⟨o, eN a o z (by rintro ps rfl; exact mu), mu⟩
  · have q := R.obj i o a e1 e2
    cases o with
    | lst l => obtain ⟨xs, e, r⟩ := q; exact ⟨xs, eN _ _ e (by intro ps z; cases z), r.ext R E⟩
    | dic l => obtain ⟨xs, e, r⟩ := q; exact ⟨xs, eN _ _ e (by intro ps z; cases z), r.1, r.2.ext R E⟩
    | ins c f => obtain ⟨dx, gs, e, r⟩ := q; exact ⟨dx, gs, eN _ _ e (by intro ps z; cases z), r.1, r.2.ext R E⟩
    | dn l => obtain ⟨xs, ys, e, p, r1, r2⟩ := q; exact ⟨xs, ys, eN _ _ e (by intro ps z; cases z), p, r1.ext R E, r2.ext R E⟩
    | tbl t =>
      obtain ⟨ps, z, t1, t2⟩ := T (a, qualL t) (tabsOf_mem.mpr ⟨i, t, e1, e2, rfl⟩)
      exact ⟨q.1, ps, z, t1, fun pos cv y => by
        obtain ⟨c, a1, a2⟩ := t2 pos cv y
        exact ⟨c, a1, a2, no _ _ a2⟩⟩
end
/-- x(lambda: d) where x catches the classes of tb: fv of d's value, ret where it raises -/
def dLam (nm : List Nat) (i : Nat) (tb : List (List Nat × Bool)) (fv : Val → Val) (ret : Val) (d : Den) : Den := fun l h => match h[i]? with
  | some (.tbl q) => if q = nm then (match d l h with
    | .ok v h1 => .ok (fv v) h1
    | .exc e h1 => if tb.lookup e.c = some true then .ok ret h1 else .fail
    | .fail => .fail) else .fail
  | _ => .fail
theorem ge_lam {X : Cx} {W : WX} (nm : List Nat) (i : Nat) (tb : List (List Nat × Bool)) (fv : Val → Val) (ret : Val) {fV : V → V} {rV : V} {x a : Str} {g CS : Addr} {k : Nat} {pg : Arguments} {bg : List Stmt} {sg : Scope} {fd : FuncData} {Ng : List Str}
    {params : Arguments} {body : Expr} {scope : Scope} {d : Den} {p lpos pos : Pos} (hfv : ∀ g H v x, VR X.K g H v x → VR X.K g H (fv v) (fV x)) (hret : ∀ g H, VR X.K g H ret rV)
    (hm : X.mg x = some (.ref g)) (U : FunD X.K x x pg bg sg [] [] g fd) (hb : Binds X.K fd [a] []) (Sg : FnScope Ng [a] sg) (hNg : Ng[0]? = some a) (hva : Vis sg a)
    (hG : ∀ cdv, GivesTo X Ng x sg g cdv bg a (X.env.qual ++ "<lambda>") (TTg X.K CS fV rV)) (ht : ∀ p ∈ tb, PySem.W.exmOne X.K (.ref (clsA X.K p.1)) (.ref CS) = some p.2)
    (hq : X.env.qual ++ "<lambda>" = qualL nm) (TB : TabB X.base X.mg (He.codeOf X.K (sOf nm, none)) (tabA X.K nm)) (hcode : X.env.code = .ref (He.codeOf X.K (sOf nm, none)))
    (hr : Room (k + 2) X.A) (L : LamS X.env.scope scope) (hdef : defaultsOf params X.env = ([], []))
    (hbind : ∀ (q : Str) (cl : List (Str × Addr)) (pm cv ctv : Value), bindArgs (PySem.W.kla_fn "<lambda>" q params body scope cl pm cv ctv) ⟨[], []⟩ = pure [])
    (hd : ∀ (A : Around) (outer : List Env) (s : Shared) (H : Hp) (E : XK) (f c' : Addr), Room k (lamCx X A outer s H E scope f c').A → (lamCx X A outer s H E scope f c').A.units + 200 < cLine → (lamCx X A outer s H E scope f c').A.units + 1 < cLine → Takes (lamCx X A outer s H E scope f c') (WD E) →
      PassesOwn (model X.prog X.w) (lamCx X A outer s H E scope f c').A (lamCx X A outer s H E scope f c').env (lamCx X A outer s H E scope f c').xe → GE (lamCx X A outer s H E scope f c') (WD E) body d)
    (hg : Gl X x := by rfl) (hdb : (x == ("__debug__" : Str)) = false := by decide +kernel) (hd1 : (a == ("__debug__" : Str)) = false := by decide +kernel) (hcd : (a == ("__classdict__" : Str)) = false := by decide +kernel) :
    GE X W (.Call (.Name x p) [.Lambda params body scope lpos] [] pos) (dLam nm i tb fv ret d) := by
  refine ⟨fun pins s σ H Q I ⟨g1, l, h, S, R, A⟩ => ?_⟩
  obtain ⟨oc, od, dV, kV, doc, pm, an, cdv, ct, osl, rfl, lk, hcg, _, _⟩ := U.ex
  unfold dLam at A
  split at A
  · rename_i q e1
    split at A
    · rename_i eq
      subst eq
      have hi : i < g1.m.length := by rw [R.len]; exact (List.getElem?_eq_some_iff.mp e1).1
      have e2 : g1.m[i]? = some g1.m[i] := by simp [hi]
      obtain ⟨eP, tG_⟩ := R.obj i _ _ e1 e2
      rw [eP] at e2
      obtain ⟨m1, m2⟩ := tabs_one R e1 e2
      have lam := pe_lamcall (X := X) (T := tabsOf h g1.m) (TT := TTg X.K CS fV rV) (t := fun E => tG X.K (WD E) (vr X.K) d) (p := p) (lpos := lpos) (pos := pos) (k := k) hg hm U.kp lk hcg hb Sg hNg hva (hG cdv) TB hcode (by rw [hq]; exact m1) (by rw [hq]; exact m2) hr L hdef hbind
        (fun A outer s H E f c' hr' => hd A outer s H E f c' hr' (by have := hr'.un; show (A.deeper _).units + 200 < cLine; omega) (by have := hr'.un; show (A.deeper _).units + 1 < cLine; omega) (takes_of rfl rfl rfl rfl) (passes_of rfl)) hdb hd1 hcd
      refine lam.run pins s σ H Q I ⟨tabs_of R, fun H1 eN T1 => ?_⟩
      obtain ⟨E1, R1⟩ := tabs_ext R (fun c q xs e => codeO_dn I.hok e) eN T1
      refine ⟨g1, l, h, S.ext R E1, R1, ?_⟩
      cases ed : d l h with
      | ok v h1 =>
        rw [ed] at A
        intro g' H' x E' R' r
        exact A g' H' _ (E1.trans E') R' (hfv _ _ _ _ r)
      | exc e h1 =>
        rw [ed] at A
        intro g' H' cls dd E' R' re
        dsimp only at A
        split at A
        · rename_i el
          have mem : (e.c, true) ∈ tb := by
            have gen : ∀ (tb : List (List Nat × Bool)), tb.lookup e.c = some true → (e.c, true) ∈ tb := by
              intro tb
              induction tb with
              | nil => intro z; cases z
              | cons y tb ih =>
                intro z
                rw [List.lookup_cons] at z
                split at z
                · rename_i q
                  have e3 : y = (e.c, true) := Prod.ext (beq_iff_eq.mp q).symm (Option.some.inj z)
                  rw [e3]
                  exact List.mem_cons_self
                · exact List.mem_cons_of_mem _ (ih z)
            exact gen tb el
          exact ⟨by rw [re.1]; exact ht _ mem, A g' H' _ (E1.trans E') R' (hret _ _)⟩
        · exact A.elim
      | fail => rw [ed] at A; exact A.elim
    · exact A.elim
  · exact A.elim
end GH
set_option Elab.async false
set_option linter.all false
set_option maxRecDepth 100000
set_option maxHeartbeats 1000000
set_option autoImplicit false
/-! a def whose code object is known; the law's end with tables; x, y, z = a, b, c. -/
namespace GH
open PySem PySem.Spec PyProof.Rows L2 LamX
variable [TheWorld]
section
variable {P : Program} {w : World} {K : PySem.W.Frag} {mg : Str → Option Value} {base : Heap}
theorem fn_GT {name qual : Str} {params : Arguments} {body : List Stmt} {scope : Scope} {f : Addr} {fd : FuncData} {N ps : List Str} {k : Nat} {d : Stm} {D : DF} {dvs : List V} {kws : List (Str × V)} (F : FunD K name qual params body scope dvs kws f fd) (S : FnScope N ps scope)
    (hD : ∀ args h, args.length = ps.length → D args h = runDef N.length d args h ∨ D args h = tidy (runDef N.length d args h) h)
    (hbody : ∀ (cdv : Value), (∀ p, f = He.fAd K p → cdv = .ref (He.codeOf K p)) → ∀ (A : Around) (outer : List Env) (s : Shared) (H : Hp) (E : XK), Room k (A.deeper (envOfC qual scope s.heap.objs.size f cdv)) →
      PassesOwn (model P w) (A.deeper (envOfC qual scope s.heap.objs.size f cdv)) (envOfC qual scope s.heap.objs.size f cdv) (cxOf (L2.CX P w) P w K mg base N qual scope f cdv A outer s H E).xe →
      Takes (cxOf (L2.CX P w) P w K mg base N qual scope f cdv A outer s H E) (WD E) →
      GSs (cxOf (L2.CX P w) P w K mg base N qual scope f cdv A outer s H E) (WD E) body d) : FnOk P w K mg base (L2.CX P w) (k + 1) f fd ps (spG K D ps.length) := by
  obtain ⟨oc, od, dV, kV, doc, pm, an, cdv, ct, osl, rfl, lk, hcd, _, _⟩ := F.ex
  refine fn_of lk hcd S (fun vs H Q E h => h.1) (fun A outer s H vs Q E hr h => ⟨tS K (WD E) d, hbody cdv (fun p hp => by
    obtain ⟨c, hc⟩ := He.codeIn_ref hcd
    subst hp
    rw [He.codeOf_eq lk hc]
    exact hc) A outer s H E hr (passes_of rfl) (takes_of rfl rfl rfl rfl), ?_⟩)
  obtain ⟨hl, g, h, args, R, r, A⟩ := h
  have A : AfterC K g H Q E (runDef N.length d args h) := by
    rcases hD args h (by rw [r.length, hl]) with e | e
    · rw [e] at A; exact A
    · rw [e] at A; exact tidy_ok R A
  refine ⟨g, args.map some ++ List.replicate (N.length - args.length) none, h, ?_, R, ?_⟩
  · unfold L2.start
    refine ⟨by simp [r.length], fun i v e => ?_⟩
    by_cases hi : i < args.length
    · rw [List.getElem?_append_left (by simpa using hi), List.getElem?_map] at e
      cases ea : args[i]? with
      | none => rw [ea] at e; cases e
      | some a =>
        rw [ea] at e
        cases e
        obtain ⟨x, e1, e2⟩ := r.get ea
        exact ⟨x, by rw [List.getElem?_append_left (by simpa [← r.length] using hi), List.getElem?_map, e1]; rfl, e2⟩
    · rw [List.getElem?_append_right (by simpa using hi), List.getElem?_replicate] at e
      split at e <;> cases e
  · unfold runDef at A
    cases e : d (args.map some ++ List.replicate (N.length - args.length) none) h with
    | nx l h1 =>
      rw [e] at A
      intro g' H' σ' X R' S'
      exact A g' H' .non X R' (by simp only [VR])
    | rt v h1 => rw [e] at A; exact A
    | exc x l h1 =>
      rw [e] at A
      intro g' H' σ' cls dd X R' S' re
      exact A g' H' cls dd X R' re
    | bk l h1 => rw [e] at A; exact False.elim A
    | ct l h1 => rw [e] at A; exact False.elim A
    | fail => rw [e] at A; exact A
end
theorem tabObs {K : PySem.W.Frag} {H : Hp} : ∀ {nms : List (List Nat)} {i : Nat} {o : Ob} {a : Addr}, (nms.map Ob.tbl)[i]? = some o → (nms.map (tabA K))[i]? = some a → ∃ q ∈ nms, o = .tbl q ∧ a = tabA K q := by
  intro nms i o a e1 e2
  rw [List.getElem?_map] at e1 e2
  cases q : nms[i]? with
  | none => rw [q] at e1; cases e1
  | some z =>
    rw [q] at e1 e2
    cases e1
    cases e2
    exact ⟨z, List.mem_of_getElem? q, rfl, rfl⟩
theorem sp_lawT {K : PySem.W.Frag} {D : DF} {H : Hp} {a : Addr} {ns : List Int} {nms : List (List Nat)} (nd : (nms.map (tabA K)).Nodup) (hT : ∀ q ∈ nms, H (tabA K q) = some (.tbl #[])) (hs : SqL K H a (ns.map V.int))
    (hD : ∀ s, (s = .fz (ns.map .int) ∨ s = .lst (ns.map .int)) → ∃ h', D [s] (nms.map Ob.tbl) = .ok (.bl true) h') : spG K D 1 [.ref a] H (fun v _ => v = .bl true) fun _ _ _ => False := by
  have hint : ∀ ns : List Int, VRs K ⟨nms.map (tabA K), []⟩ H (ns.map .int) (ns.map V.int) := by
    intro ns
    induction ns with
    | nil => exact VRs.nil
    | cons n ns ih => exact VRs.cons (by simp only [VR]) ih
  have no : ∀ b o, H b = some o → (∀ ps, o ≠ .tbl ps) → ¬ (Gh.mk (nms.map (tabA K)) []).own b := fun b o e nt z => by
    rcases z with z | z
    · obtain ⟨q, hq, rfl⟩ := List.mem_map.mp z
      rw [hT q hq] at e
      cases e
      exact nt _ rfl
    · cases z
  have R : HR K ⟨nms.map (tabA K), []⟩ H (nms.map Ob.tbl) := ⟨by simp, nd, fun a ha => by simp, fun a ha => absurd ha (by simp), fun i o a e1 e2 => by
    obtain ⟨q, hq, rfl, rfl⟩ := tabObs (K := K) (H := H) e1 e2
    exact ⟨rfl, #[], hT q hq, True.intro, fun pos cv z => by simp [codeAmong] at z⟩⟩
  have key : ∃ s, (s = .fz (ns.map .int) ∨ s = .lst (ns.map .int)) ∧ VR K ⟨nms.map (tabA K), []⟩ H s (.ref a) := by
    rcases hs with (hs | ⟨o, hs⟩) | hs
    · exact ⟨_, .inr rfl, by simp only [VR]; exact ⟨a, _, rfl, no _ _ hs (by intro ps z; cases z), hs, hint ns⟩⟩
    · exact ⟨_, .inl rfl, by simp only [VR]; exact ⟨a, _, rfl, .inl ⟨o, hs⟩, hint ns⟩⟩
    · exact ⟨_, .inl rfl, by simp only [VR]; exact ⟨a, _, rfl, .inr hs, hint ns⟩⟩
  obtain ⟨s, hs1, r⟩ := key
  obtain ⟨h', e⟩ := hD s hs1
  refine ⟨rfl, ⟨nms.map (tabA K), []⟩, nms.map Ob.tbl, [s], R, VRs.one r, ?_⟩
  rw [e]
  intro g' H' x E R r
  simpa only [VR] using r
section
variable {X : Cx} {W : WX}
def sPar3 (i j k : Nat) (d : DenG (List Val)) : Stm := fun l h => (d l h).to l fun vs h1 => match vs with
  | [u, v, w] => .nx (((l.set i (some u)).set j (some v)).set k (some w)) h1
  | _ => .fail
theorem gs_par3 (i j k : Nat) {x y z : Str} {a b c : Expr} {d : DenG (List Val)} {px py pz pt pos : Pos} {kt k2 pt2} (hc : X.calm = true) (hN : X.N.Nodup) (ha : GA X W [a, b, c] d) (hi : X.N[i]? = some x := by rfl) (hj : X.N[j]? = some y := by rfl) (hk : X.N[k]? = some z := by rfl) (hij : i ≠ j := by decide) (hik : i ≠ k := by decide) (hjk : j ≠ k := by decide)
    (hx : X.env.scope.names.lookup x = some .local := by rfl) (hy : X.env.scope.names.lookup y = some .local := by rfl) (hz : X.env.scope.names.lookup z = some .local := by rfl)
    (hw : swappedStores [.Tuple [.Name x px, .Name y py, .Name z pz] kt pt] (.Tuple [a, b, c] k2 pt2) X.env = pure (some [x, y, z]) := by rfl)
    (hs : swapsWithSole [.Tuple [.Name x px, .Name y py, .Name z pz] kt pt] (.Tuple [a, b, c] k2 pt2) pos.line X.env = pure false := by rfl) :
    GS X W (.Assign [.Tuple [.Name x px, .Name y py, .Name z pz] kt pt] (.Tuple [a, b, c] k2 pt2) pos) (sPar3 i j k d) := by
  refine PS.imp (ps_par3 hc hN hi hj hk hij hik hjk hx hy hz ha hw hs) fun D σ H ⟨g, l, h, S, R, A⟩ => ?_
  refine tG_to S R A fun vs h1 g1 H1 xs E S1 R1 r1 A1 => ?_
  split at A1
  · rename_i u v w
    have r1 : VRs X.K g1 H1 [u, v, w] xs := r1
    simp only [VRs] at r1
    obtain ⟨x0, _, rfl, ru, x1, _, rfl, rx, x2, _, rfl, ry, rfl⟩ := r1
    exact ⟨x0, x1, x2, rfl, A1 g1 H1 _ Ext.refl R1 (((S1.set i ru).set j rx).set k ry)⟩
  · exact A1.elim
end
end GH
set_option Elab.async false
set_option linter.all false
set_option maxRecDepth 100000
set_option maxHeartbeats 1000000
set_option autoImplicit false
/-! the tape behind a table. -/
namespace GH
open PySem
variable [TheWorld]
section
variable (t : Tape) (a0 : Ob) (g : Hv)
@[simp] theorem tp_cells_1 : vIx (.ref 1) (.str [99, 101, 108, 108, 115]) (a0 :: .dic t.dic :: g) = .ok (.lst (t.cells.map .int)) (a0 :: .dic t.dic :: g) := nrfl rfl
@[simp] theorem tp_at_1 : vIx (.ref 1) (.str [97, 116]) (a0 :: .dic t.dic :: g) = .ok (.int t.at_) (a0 :: .dic t.dic :: g) := nrfl rfl
@[simp] theorem tp_left_1 : vIx (.ref 1) (.str [108, 101, 102, 116]) (a0 :: .dic t.dic :: g) = .ok (.int t.left) (a0 :: .dic t.dic :: g) := nrfl rfl
@[simp] theorem tp_seed_1 : vIx (.ref 1) (.str [115, 101, 101, 100]) (a0 :: .dic t.dic :: g) = .ok (.int t.seed) (a0 :: .dic t.dic :: g) := nrfl rfl
@[simp] theorem tp_salt_1 : vIx (.ref 1) (.str [115, 97, 108, 116]) (a0 :: .dic t.dic :: g) = .ok (.int t.salt) (a0 :: .dic t.dic :: g) := nrfl rfl
@[simp] theorem ts_at_1 (i : Int) : vSet (.ref 1) (.str [97, 116]) (.int i) (a0 :: .dic t.dic :: g) = some (a0 :: .dic { t with at_ := i }.dic :: g) := nrfl rfl
@[simp] theorem ts_left_1 (i : Int) : vSet (.ref 1) (.str [108, 101, 102, 116]) (.int i) (a0 :: .dic t.dic :: g) = some (a0 :: .dic { t with left := i }.dic :: g) := nrfl rfl
@[simp] theorem ts_salt_1 (i : Int) : vSet (.ref 1) (.str [115, 97, 108, 116]) (.int i) (a0 :: .dic t.dic :: g) = some (a0 :: .dic { t with salt := i }.dic :: g) := nrfl rfl
end
theorem take_key1 {m : Int} {a0 : Ob} {g : Hv} {P : Val → Hv → Prop} (hm : 0 < m) (hm2 : m < 1073741824) (k : ∀ r o', 0 ≤ r → r < m → TapeOb o' → P (.int r) (a0 :: o' :: g)) (t : Tape) (ht : 0 ≤ t.at_) : sok ((sSeq (sIf (dB (dBin vGt (dBin vIx (dVar 0) (dC (.str [108, 101, 102, 116]))) (dC (.int 0)))) (sSeq (sAsg (dBin vMod (dFn vInt (dBin vIx (dVar 0) (dC (.str [108, 101, 102, 116])))) (dVar 1)) (gName 3))
    (sSeq (sAsg (dBin vDiv (dBin vIx (dVar 0) (dC (.str [108, 101, 102, 116]))) (dVar 1)) (gSub (dVar 0) (dC (.str [108, 101, 102, 116]))))
    (sSeq (sRet (dVar 3))
    sNext))) sNext)
    (sSeq (sAsg (dBin vAdd (dBin vIx (dVar 0) (dC (.str [115, 97, 108, 116]))) (dC (.int 1))) (gSub (dVar 0) (dC (.str [115, 97, 108, 116]))))
    (sSeq (sAsg (dBin vMod (dFn vInt (dBin vAdd (dBin vMul (dBin vIx (dVar 0) (dC (.str [115, 101, 101, 100]))) (dC (.int 48271))) (dBin vMul (dBin vIx (dVar 0) (dC (.str [115, 97, 108, 116]))) (dC (.int 69621))))) (dC (.int 2147483647))) (gName 2))
    (sSeq (sAsg (dBin vMod (dFn vInt (dBin vAdd (dBin vAdd (dBin vMul (dVar 2) (dVar 2)) (dBin vMul (dBin vIx (dVar 0) (dC (.str [115, 97, 108, 116]))) (dC (.int 40692)))) (dC (.int 12345)))) (dC (.int 2147483399))) (gName 2))
    (sSeq (sRet (dBin vMod (dFn vInt (dVar 2)) (dVar 1)))
    sNext))))) [some (.ref 1), some (.int m), none, none] (a0 :: .dic t.dic :: g)) { nx := fun _ h => P .non h, rt := P } := by
    by_cases hl : 0 < t.left
    · simp [dVar]
      simp [hl, dVar, vMod_ok _ hm, vDiv_ok _ hm hm2]
      exact k _ _ (Int.emod_nonneg _ (by omega)) (Int.emod_lt_of_pos _ hm) ⟨_, by exact ht, rfl⟩
    · refine sok_seq (fun l h => l = [some (.ref 1), some (.int m), none, none] ∧ h = a0 :: .dic t.dic :: g) (by simp [hl, dVar]) ?_
      rintro l h ⟨rfl, rfl⟩
      refine sok_seq (fun l h => l = [some (.ref 1), some (.int m), none, none] ∧ ∃ t' : Tape, 0 ≤ t'.at_ ∧ h = a0 :: .dic t'.dic :: g) (by simp [dVar]; exact ⟨_, by exact ht, rfl⟩) ?_
      rintro l h ⟨rfl, t, ht, rfl⟩
      refine sok_seq (fun l h => (∃ x, big64 x = true ∧ l = [some (.ref 1), some (.int m), some (.int x), none]) ∧ h = a0 :: .dic t.dic :: g) ?_ ?_
      · simp [dVar, vMul_ok _ (.inr big_a), vMul_ok _ (.inr big_b), vMod_ok _ p1]
        exact big_mod _
      rintro l h ⟨⟨x, hx, rfl⟩, rfl⟩
      refine sok_seq (fun l h => (∃ x, l = [some (.ref 1), some (.int m), some (.int x), none]) ∧ h = a0 :: .dic t.dic :: g) ?_ ?_
      · simp [dVar, vMul_ok _ (.inl hx), vMul_ok _ (.inr big_c), vMod_ok _ p2]
      rintro l h ⟨⟨x, rfl⟩, rfl⟩
      simp [dVar, vMod_ok _ hm]
      exact k _ _ (Int.emod_nonneg _ (by omega)) (Int.emod_lt_of_pos _ hm) ⟨_, by exact ht, rfl⟩
theorem take_sp1 {m : Int} {a0 : Ob} {o : Ob} {g : Hv} {P : Val → Hv → Prop} (hm : 0 < m) (hm2 : m < 1073741824) (ho : TapeOb o)
    (k : ∀ r o', 0 ≤ r → r < m → TapeOb o' → P (.int r) (a0 :: o' :: g)) : ok (runDef 4 bTake [.ref 1, .int m] (a0 :: o :: g)) P := by
  obtain ⟨t, ht, rfl⟩ := ho
  rw [ok_run]
  refine sok_seq (fun l h => l = [some (.ref 1), some (.int m), none, none] ∧ ∃ t' : Tape, 0 ≤ t'.at_ ∧ h = a0 :: .dic t'.dic :: g) ?_ (fun l h ⟨e1, t', h1, e2⟩ => by subst e1 e2; exact take_key1 hm hm2 k t' h1)
  simp [dVar]
  by_cases hc : t.left = 0
  · by_cases h2 : t.at_ < t.cells.length
    · obtain ⟨v, e1, e2⟩ := nth_of (l := t.cells.map Val.int) ht (by simpa using h2)
      obtain ⟨c, hc', rfl⟩ := List.mem_map.mp e2
      simp [hc, h2, dVar, vIx_lst e1]
      exact ⟨{ t with left := c, at_ := t.at_ + 1 }, by show 0 ≤ t.at_ + 1; omega, rfl⟩
    · simp [hc, h2, dVar]
      exact ⟨t, ht, rfl⟩
  · simp [hc, dVar]
    exact ⟨t, ht, rfl⟩
theorem tape_spL {ns : List Int} {h : Hv} {P : Val → Hv → Prop} (k : ∀ o, TapeOb o → P (.ref h.length) (h ++ [o])) : ok (runDef 4 bTape [.lst (ns.map .int)] h) P := by
  simp only [ok_run, bTape, e_seq, sok_then]
  simp only [List.map_cons, List.map_nil, List.length_cons, List.length_nil, List.cons_append, List.nil_append, List.replicate]
  simp [dVar]
  refine lc_pure (fun _ => true) (fun v => match v with | .int i => .int (if i < 0 then -i else i) | v => v) trivial ?_ ?_
  · intro x hx
    obtain ⟨i, hi, rfl⟩ := List.mem_map.mp hx
    simp [wipeL, dVar]
  · have e : ∀ ns : List Int, (List.filter (fun _ => true) (ns.map Val.int)).map (fun v => match v with | .int i => .int (if i < 0 then -i else i) | v => v) = (ns.map fun i => if i < 0 then -i else i).map Val.int := by
      intro ns
      induction ns with
      | nil => rfl
      | cons n ns ih => simp only [List.map_cons, List.filter_cons, if_true] at ih ⊢; rw [ih]
    rw [e]
    refine forL_inv (fun items l h1 => h1 = h ∧ (∃ x y, l = [some (.lst (ns.map .int)), some (.lst ((ns.map fun i => if i < 0 then -i else i).map Val.int)), some (.int x), y]) ∧ ∀ z ∈ items, ∃ i, z = Val.int i) ?_ ?_ _ _ _ ?_
    · rintro x r l h1 ⟨rfl, ⟨s, y, rfl⟩, hz⟩
      obtain ⟨i, rfl⟩ := hz x (List.mem_cons_self ..)
      refine ⟨trivial, ?_⟩
      simp [dVar, vMul_ok _ (.inr big_d), vMod_ok _ p1]
      exact fun z hz' => hz z (List.mem_cons_of_mem _ hz')
    · rintro l h1 ⟨rfl, ⟨s, y, rfl⟩, _⟩
      refine ⟨trivial, ?_⟩
      simp [dDisp, dPairs, dVar, keyOf]
      exact k _ ⟨⟨ns.map fun i => if i < 0 then -i else i, 0, 0, s, 0⟩, Int.le_refl _, by simp [dMk, dPut, kEq, Tape.dic]⟩
    · exact ⟨rfl, ⟨7, none, rfl⟩, fun z hz => by obtain ⟨i, _, rfl⟩ := List.mem_map.mp hz; exact ⟨i, rfl⟩⟩
end GH
set_option Elab.async false
set_option linter.all false
set_option maxRecDepth 100000
set_option maxHeartbeats 1000000
set_option autoImplicit false
namespace GH
open PySem
variable [TheWorld]
/-! steps as equations -/
section
variable {n : Nat} {b : Stm} {args : List Val} {h h1 : Hv} {l' : GH.Loc}
theorem run_nx (e : b (args.map some ++ List.replicate (n - args.length) none) h = .nx l' h1) : runDef n b args h = .ok .non h1 := by simp only [runDef, e]
theorem run_rt {v : Val} (e : b (args.map some ++ List.replicate (n - args.length) none) h = .rt v h1) : runDef n b args h = .ok v h1 := by simp only [runDef, e]
theorem run_exc {x : Ex} (e : b (args.map some ++ List.replicate (n - args.length) none) h = .exc x l' h1) : runDef n b args h = .exc x h1 := by simp only [runDef, e]
end
section
variable {d : Den} {t : Tg} {a b rest : Stm} {l l1 : GH.Loc} {h h1 : Hv} {v : Val} {x : Ex} {tt : DenG Bool} {i : Nat}
theorem expr_eq (e : d l h = .ok v h1) : sSeq (sExpr d) rest l h = rest l h1 := by
  rw [e_seq, e_expr, e]
  rfl
theorem expr_ex (e : d l h = .exc x h1) : sSeq (sExpr d) rest l h = .exc x l h1 := by
  rw [e_seq, e_expr, e]
  rfl
theorem asg_eq (e : d l h = .ok v h1) (e2 : t v l h1 = .ok l1 h1) : sSeq (sAsg d t) rest l h = rest l1 h1 := by
  rw [e_seq, e_asg, e]
  simp [e2]
theorem set_eq (e : d l h = .ok v h1) : sSeq (sAsg d (gName i)) rest l h = rest (l.set i (some v)) h1 := asg_eq e rfl
theorem asg_ex (e : d l h = .exc x h1) : sSeq (sAsg d t) rest l h = .exc x l h1 := by
  rw [e_seq, e_asg, e]
  rfl
theorem ret_eq (e : d l h = .ok v h1) : sSeq (sRet d) rest l h = .rt v h1 := by
  rw [e_seq, e_ret, e]
  rfl
theorem ret_ex (e : d l h = .exc x h1) : sSeq (sRet d) rest l h = .exc x l h1 := by
  rw [e_seq, e_ret, e]
  rfl
theorem if_t (e : tt l h = .ok true h1) : sSeq (sIf tt a b) rest l h = (a l h1).andThen rest := by
  rw [e_seq, e_if, e]
  rfl
theorem if_f (e : tt l h = .ok false h1) : sSeq (sIf tt a sNext) rest l h = rest l h1 := by
  rw [e_seq, e_if, e]
  rfl
theorem if_e (e : tt l h = .ok false h1) : sSeq (sIf tt a b) rest l h = (b l h1).andThen rest := by
  rw [e_seq, e_if, e]
  rfl
theorem wh_f (e : tt l h = .ok false h1) : sWhile tt a l h = .nx l h1 := by
  rw [sWhile_eq, e]
  rfl
theorem wh_t (e : tt l h = .ok true h1) : sWhile tt a l h = (a l h1).turn (sWhile tt a) := by
  rw [sWhile_eq, e]
  rfl
end
theorem cut_mid {α : Type} (l : List α) (a b : Nat) : cut l (some (a : Int)) (some (b : Int)) = (l.drop a).take (b - a) := by
  unfold cut
  rw [HT.sIx_nat, HT.sIx_nat]
  by_cases h : a ≤ l.length
  · rw [Nat.min_eq_left h]
    by_cases h2 : b ≤ l.length
    · rw [Nat.min_eq_left h2]
    · rw [Nat.min_eq_right (by omega), List.take_of_length_le (by simp), List.take_of_length_le (by simp; omega)]
  · rw [Nat.min_eq_right (show l.length ≤ a by omega), List.drop_of_length_le (Nat.le_refl _), List.drop_of_length_le (show l.length ≤ a by omega)]
    simp
section
variable {t : List Nat} {h : Hv}
theorem cut_str (ht : t.length ≤ 100000) (a b : Nat) : vCut (.str t) (some (a : Int)) (some (b : Int)) h = .ok (.str ((t.drop a).take (b - a))) h := by
  simp only [vCut]
  rw [if_pos (show t.length ≤ lineN by unfold lineN; omega), cut_mid]
theorem cut_to (ht : t.length ≤ 100000) (b : Nat) : vCut (.str t) none (some (b : Int)) h = .ok (.str (t.take b)) h := by
  simp only [vCut]
  rw [if_pos (show t.length ≤ lineN by unfold lineN; omega), cut_take]
theorem cut_from (ht : t.length ≤ 100000) (b : Nat) : vCut (.str t) (some (b : Int)) none h = .ok (.str (t.drop b)) h := by
  simp only [vCut]
  rw [if_pos (show t.length ≤ lineN by unfold lineN; omega), cut_drop]
theorem len_str (ht : t.length ≤ 100000) : vLen (.str t) h = .ok (.int t.length) h := by
  simp only [vLen]
  rw [if_pos (show t.length ≤ lineN by unfold lineN; omega)]
theorem ix_str {p c : Nat} (ht : t.length ≤ 100000) (e : t[p]? = some c) : vIx (.str t) (.int p) h = .ok (.str [c]) h := by
  simp only [vIx]
  rw [if_pos (show t.length ≤ lineN by unfold lineN; omega), nth_nat e]
end
theorem tidy_okE {r : Res Val} {h : Hv} {v : Val} {g : Hv} (e : r = .ok v (h ++ g)) (o : okV v = true) : tidy r h = .ok v h :=
  eq_of (tidy_app (by rw [e]; exact ⟨⟨g, rfl⟩, o, rfl, rfl⟩))
theorem tidy_excE {r : Res Val} {h : Hv} {C : Tx} {g : Hv} (e : r = .exc ⟨C, []⟩ (h ++ g)) : tidy r h = .exc ⟨C, []⟩ h := by
  rw [e]
  unfold tidy
  simp only
  rw [if_pos]
  · simp
  · refine ⟨⟨by simp, fun i hi => .inl ?_⟩, rfl⟩
    rw [List.getElem?_append_left hi]
theorem raise_if {t : DenG Bool} {E : Tx} {rest : Stm} {l : GH.Loc} {h : Hv} {c : Bool} (e : t l h = .ok c h) : sSeq (sIf t (sSeq (sRaise E) sNext) sNext) rest l h = if c = true then .exc ⟨E, []⟩ l h else rest l h := by
  rw [e_seq, e_if, e]
  cases c <;> rfl
theorem joinL_nil : ∀ L : List Tx, TL.joinL [] L = L.flatten
  | [] => rfl
  | [p] => by simp [TL.joinL]
  | p :: q :: r => by rw [TL.joinL, joinL_nil (q :: r)]; simp
theorem for_nil {t : Tg} {b : Stm} {it : List Val} {l : GH.Loc} {h : Hv} : forL t b (it, none) [] l h = .nx l h := by simp [forL]
theorem for_cons {t : Tg} {b : Stm} {it r : List Val} {x : Val} {l l1 : GH.Loc} {h : Hv} (e : t x l h = .ok l1 h) : forL t b (it, none) (x :: r) l h = (b l1 h).turn (forL t b (it, none) r) := by
  simp [forL, e]
theorem nth_last {α : Type} (L : List α) (x : α) : nth (L ++ [x]) (-1) = some x := by
  have e : (-1 + ((L.length : Int) + 1)).toNat = L.length := by omega
  simp [nth, e]
  omega
theorem join_nil {L : List Tx} {h : Hv} (hl : L.flatten.length ≤ 16777216) : vJoin (.str []) (.lst (L.map .str)) h = .ok (.str L.flatten) h := by
  simp only [vJoin, seqOf, lstOf, strsOf_map]
  rw [if_pos (by simpa [List.length_flatten] using hl), joinL_nil]
theorem add_str {a b : Tx} {h : Hv} (e : a.length + b.length ≤ 16777216) : vAdd (.str a) (.str b) h = .ok (.str (a ++ b)) h := by
  simp [vAdd, lineN, e]
theorem sum_ints (L : List Int) (h : Hv) : vSum (.lst (L.map .int)) h = .ok (.int L.sum) h := by
  have : ∀ L : List Int, intsOf (L.map Val.int) = some L := by
    intro L
    induction L with
    | nil => rfl
    | cons a L ih => simp [intsOf, ih]
  simp [vSum, lstOf, this]
end GH
set_option Elab.async false
set_option linter.all false
set_option maxRecDepth 100000
set_option maxHeartbeats 1000000
set_option autoImplicit false
namespace GH
open PySem
variable [TheWorld]
theorem below_ints (n : Nat) (L : List Int) : belows n (L.map .int) = true := by
  induction L with
  | nil => rfl
  | cons a L ih => simp [belows, below, ih]
theorem below_tape (n : Nat) {o : Ob} (h : TapeOb o) : belowO n o = true := by
  obtain ⟨t, _, rfl⟩ := h
  simp [belowO, Tape.dic, belows, below, below_ints]
/-- a def that draws from the tape and hands back a plain value -/
theorem tidy_tape {r : Res Val} {a0 o : Ob} {g : Hv} {P : Val → Hv → Prop} (k : ok r fun v h' => ∃ o' g', h' = a0 :: o' :: (g ++ g') ∧ TapeOb o' ∧ okV v = true ∧ P v (a0 :: o' :: g)) : ok (tidy r (a0 :: o :: g)) P := by
  obtain ⟨v, h', e, o', g', rfl, to, okv, hp⟩ := ok_eq k
  rw [e]
  have kp : kept (a0 :: o :: g).length (a0 :: o :: g) (a0 :: o' :: (g ++ g')) := by
    refine ⟨by simp, fun i hi => ?_⟩
    cases i with
    | zero => exact .inl rfl
    | succ i =>
      cases i with
      | zero =>
        refine .inr fun x ex => ?_
        have : o' = x := by simpa using ex
        subst this
        exact below_tape _ to
      | succ i =>
        refine .inl ?_
        simp only [List.getElem?_cons_succ]
        rw [List.getElem?_append_left (by simpa using hi)]
  unfold tidy
  dsimp only
  rw [if_pos kp, frzs_self okv]
  dsimp only
  rw [ok_ok]
  have : (a0 :: o' :: (g ++ g')).take (a0 :: o :: g).length = a0 :: o' :: g := by simp
  rw [this]
  exact hp
theorem veq_self {v : Val} (o : okV v = true) : veq v v = true := SeqAt.eqv_refl _ (pd_lay v o)
theorem eqOk_self {v : Val} (o : okV v = true) (d : dpV v ≤ 190) : eqOk v v = true := by simp [eqOk, o, d]
theorem vNe_tup {L : List Val} {h : Hv} (o : okV (.tup L) = true) (d : dpV (.tup L) ≤ 190) : vNe (.tup L) (.tup L) h = .ok (.bl false) h := by
  simp [vNe, thaw, eqOk_self o d, veq_self o]
theorem vNe_lst {L : List Val} {h : Hv} (o : okV (.lst L) = true) (d : dpV (.lst L) ≤ 190) : vNe (.lst L) (.lst L) h = .ok (.bl false) h := by
  simp [vNe, thaw, eqOk_self o d, veq_self o]
theorem vNe_bl (a b : Bool) (h : Hv) : vNe (.bl a) (.bl b) h = .ok (.bl (!decide (a = b))) h := by
  simp [vNe, thaw, eqOk, okV, dpV]
end GH
set_option Elab.async false
set_option linter.all false
set_option maxRecDepth 100000
set_option maxHeartbeats 1000000
set_option autoImplicit false
/-! dicts with tuples as keys: made, read, asked, written. -/
namespace GH
open PySem PySem.Spec PyProof.Rows L2
variable [TheWorld]
/-- the dict of ours at a reference -/
def dnOf (h : Hv) : Val → Option (List (Val × Val))
  | .ref i => match h[i]? with
    | some (.dn l) => some l
    | _ => none
  | _ => none
/-- a key that may be used: a tuple of some depth -/
def keyOk (u : Val) : Bool := match u with
  | .tup _ => match keyN u with
    | some k => decide (k.depth ≤ 8)
    | none => false
  | _ => false
section
variable {X : Cx} {W : WX} {g : Gh} {H : Hp} {h : Hv} {σ : L2.St} {v u w : Val} {x y z : V} {l : List (Val × Val)}
structure DnAt (K : PySem.W.Frag) (g : Gh) (H : Hp) (a : Addr) (l : List (Val × Val)) (xs : List NE) (ys : List V) : Prop where
  at_ : H a = some (DN a xs)
  np : NP a l xs ys
  nr : NR K g H l xs ys
theorem DnAt.len {K : PySem.W.Frag} {a : Addr} {xs : List NE} {ys : List V} (d : DnAt K g H a l xs ys) : xs.length = l.length := by
  have := congrArg List.length d.np.ks
  simpa using this.symm
theorem dnOf_ok (R : HR X.K g H h) (r : VR X.K g H v x) (e : dnOf h v = some l) : ∃ i a xs ys, v = .ref i ∧ x = .ref a ∧ g.m[i]? = some a ∧ h[i]? = some (.dn l) ∧ DnAt X.K g H a l xs ys := by
  cases v with
  | ref i =>
    simp only [dnOf] at e
    split at e
    · rename_i l' hl
      cases e
      simp only [VR] at r
      obtain ⟨a, rfl, hm⟩ := r
      obtain ⟨xs, ys, e1, p, r1, r2⟩ := ref_at R hl hm
      exact ⟨i, a, xs, ys, rfl, rfl, hm, hl, e1, p, NR.of p.ks p.dp p.vs r1 r2⟩
    · cases e
  | _ => simp [dnOf] at e
theorem keyOk_ok (r : VR X.K g H u y) (e : keyOk u = true) : ∃ b k, y = .ref b ∧ keyN u = some k ∧ k.depth ≤ 8 ∧ VR X.K g H u (.ref b) := by
  cases u with
  | tup l =>
    unfold keyOk at e
    cases q : keyN (.tup l) with
    | none => simp [q] at e
    | some k =>
      simp [q] at e
      have r' := r
      simp only [VR] at r
      obtain ⟨a, xs, rfl, _⟩ := r
      exact ⟨a, k, rfl, rfl, e, r'⟩
  | _ => simp [keyOk] at e
/-- d[k] -/
def vIxN (v u : Val) (h : Hv) : Res Val := match dnOf h v with
  | some l => if keyOk u then (match dGetN l u with
    | some w => .ok w h
    | none => .fail) else .fail
  | none => .fail
def rIxN (K : PySem.W.Frag) : R2 := fun x y H Q => ∃ g a b l xs ys k nk v, x = .ref a ∧ y = .ref b ∧ DnAt K g H a l xs ys ∧ keyN k = some nk ∧ nk.depth ≤ 8 ∧ VR K g H k (.ref b) ∧ dGetN l k = some v ∧ ∀ z, VR K g H v z → Q z H
theorem ix_dn (hu : X.A.units + 200 < cLine) (hw : X.w = TheWorld.w) : IxR X (rIxN X.K) := by
  intro value slice pins s σ H x y v u Q I rx ry h hs
  obtain ⟨g, a, b, l, xs, ys, k, nk, c, rfl, rfl, D, hk, hd, rk, hv, q⟩ := h
  obtain rfl : v = Value.ref a := rx
  obtain rfl : u = Value.ref b := ry
  exact tail_any (dn_type I D.at_).1 PySem.F.slot_dict_getitem.lookup (dn_getItem (y := .non) (u := .none) hu I hw D.at_ D.np.nd D.nr hk hd rk hv fun z w' s' I' rz rw' => ⟨z, H, I', rw', q z rz⟩) hs
theorem ge_ixN {a b : Expr} {da db : Den} {pos : Pos} (hu : X.A.units + 200 < cLine) (hw : X.w = TheWorld.w) (ha : GE X W a da) (hb : GE X W b db) (hs : PlainIx b := by exact fun _ _ => rfl) : GE X W (.Subscript a b pos) (dBin vIxN da db) := by
  refine PE.imp (pe_ix (ix_dn hu hw) ha hb hs) fun σ H Q ⟨g, l, h, S, R, A⟩ => ?_
  refine tG_of S R A fun v h1 g1 H1 x E S1 R1 r1 A1 => ?_
  refine tG_of S1 R1 A1 fun u h2 g2 H2 y E2 S2 R2 r2 A2 => ?_
  unfold vIxN at A2
  split at A2
  · rename_i l hl
    split at A2
    · rename_i hk
      split at A2
      · rename_i w e
        obtain ⟨i, a, xs, ys, rfl, rfl, hm, hi, D⟩ := dnOf_ok R2 (r1.ext R1 E2) hl
        obtain ⟨b, nk, rfl, h1, h2, r⟩ := keyOk_ok r2 hk
        exact ⟨g2, a, b, l, xs, ys, u, nk, w, rfl, rfl, D, h1, h2, r, e, fun z rz => A2 g2 H2 z Ext.refl R2 rz⟩
      · exact A2.elim
    · exact A2.elim
  · exact A2.elim
/-- k in d -/
def isInN (v u : Val) (h : Hv) : Res Bool := match dnOf h u with
  | some l => if keyOk v then .ok (l.any fun p => kEqN p.1 v) h else .fail
  | none => .fail
def vInN (v u : Val) (h : Hv) : Res Val := (isInN v u h).bind fun b h1 => .ok (.bl b) h1
def vNotInN (v u : Val) (h : Hv) : Res Val := (isInN v u h).bind fun b h1 => .ok (.bl (!b)) h1
def rInN (K : PySem.W.Frag) (neg : Bool) : R2 := fun y x H Q => ∃ g a b l xs ys k nk, x = .ref a ∧ y = .ref b ∧ DnAt K g H a l xs ys ∧ keyN k = some nk ∧ nk.depth ≤ 8 ∧ VR K g H k (.ref b) ∧ Q (.bl (if neg then !(l.any fun p => kEqN p.1 k) else l.any fun p => kEqN p.1 k)) H
theorem dn_notIn {pins : List (Addr × Obj)} {s : Shared} {A : Around} {E : Value → Shared → Prop} {a : Addr} {xs : List NE} {ys : List V} {k : Val} {Q : Value → Shared → Prop} (hu : A.units + 200 < cLine) (I : Inv X pins σ H s) (hw : X.w = TheWorld.w) (e : H a = some (DN a xs)) (hs : (a == sysModules) = false) (nd : (xs.map (·.1)).Nodup) (r : NR X.K g H l xs ys)
    {nk : NestedKey} (hk : keyN k = some nk) (hd : nk.depth ≤ 8) {b : Addr} (rk : VR X.K g H k (.ref b)) (h : ∀ s', Inv X pins σ H s' → Q (.bool (!(l.any fun p => kEqN p.1 k))) s') : wpAny (model X.prog X.w) A (compareOp .NotIn (.ref b) (.ref a)) Q E s := by
  refine wpAny_notIn_heap (knd := nestedKind X.prog X.w) (show A.units + 1 + 8 < cLine by omega) ⟨keyN_is I hk rk rfl, hd⟩ hs (dn_of I hw e nd r) ?_
  rw [← NR.any hk r]
  exact h _ (I.tok _)
theorem isInN_ok (neg : Bool) (R : HR X.K g H h) (rv : VR X.K g H v x) (ru : VR X.K g H u y) {Q : VK} (A : After X.K W (vr X.K) σ g H Q ((isInN v u h).bind fun b h1 => .ok (.bl (if neg then !b else b)) h1)) : rInN X.K neg x y H Q := by
  unfold isInN at A
  split at A
  · rename_i l hl
    split at A
    · rename_i hk
      obtain ⟨i, a, xs, ys, rfl, rfl, hm, hi, D⟩ := dnOf_ok R ru hl
      obtain ⟨b, nk, rfl, h1, h2, r⟩ := keyOk_ok rv hk
      exact ⟨g, a, b, l, xs, ys, v, nk, rfl, rfl, D, h1, h2, r, A g H _ Ext.refl R (by simp only [VR])⟩
    · exact A.elim
  · exact A.elim
theorem og_inN (hu : X.A.units + 200 < cLine) (hw : X.w = TheWorld.w) : OpG X (compareOp .In) vInN := by
  refine ⟨rInN X.K false, ?_, fun W g H h σ v u x y Q R rv ru A => isInN_ok false R rv ru A⟩
  intro pins s σ H y x u v Q I ry rx h
  obtain ⟨g, a, b, l, xs, ys, k, nk, rfl, rfl, D, hk, hd, rk, q⟩ := h
  obtain rfl : v = Value.ref a := rx
  obtain rfl : u = Value.ref b := ry
  exact dn_in hu I hw D.at_ D.np.sys D.np.nd D.nr hk hd rk fun s' I' => ⟨.bl _, H, I', rfl, q⟩
theorem og_notInN (hu : X.A.units + 200 < cLine) (hw : X.w = TheWorld.w) : OpG X (compareOp .NotIn) vNotInN := by
  refine ⟨rInN X.K true, ?_, fun W g H h σ v u x y Q R rv ru A => isInN_ok true R rv ru A⟩
  intro pins s σ H y x u v Q I ry rx h
  obtain ⟨g, a, b, l, xs, ys, k, nk, rfl, rfl, D, hk, hd, rk, q⟩ := h
  obtain rfl : v = Value.ref a := rx
  obtain rfl : u = Value.ref b := ry
  exact dn_notIn hu I hw D.at_ D.np.sys D.np.nd D.nr hk hd rk fun s' I' => ⟨.bl _, H, I', rfl, q⟩
/-- d[k] = v -/
def vSetN (o i v : Val) (h : Hv) : Option Hv := match o with
  | .ref a => match h[a]? with
    | some (.dn l) => if keyOk i ∧ l.length < lineN then some (h.set a (.dn (dPutN l i v))) else none
    | _ => none
  | _ => none
def gSubN (o i : Den) : Tg := fun v l h => (o l h).toT l fun x h1 => (i l h1).toT l fun y h2 => match vSetN x y v h2 with
  | some h3 => .ok l h3
  | none => .fail
def rSetN (K : PySem.W.Frag) : V → V → V → Hp → (Hp → Prop) → Prop := fun o i z H Q => ∃ g a b l xs ys k nk, o = .ref a ∧ i = .ref b ∧ DnAt K g H a l xs ys ∧ keyN k = some nk ∧ nk.depth ≤ 8 ∧ VR K g H k (.ref b) ∧ ∀ u, RelV z u → ((storedH xs nk b u).map (·.1)).Nodup → Q (upd H a (DN a (storedH xs nk b u)))
theorem set_dn (hu : X.A.units + 200 < cLine) (hw : X.w = TheWorld.w) : PSet X (rSetN X.K) := by
  intro pins s σ H o i z ov iv u Q I ro ri rv h
  obtain ⟨g, a, b, l, xs, ys, k, nk, rfl, rfl, D, hk, hd, rk, q⟩ := h
  obtain rfl : ov = Value.ref a := ro
  obtain rfl : iv = Value.ref b := ri
  exact dn_setItem (v := .non) (y := .non) hu I hw D.at_ (by rw [D.len]; exact D.np.sz) D.np.nd D.nr hk hd rk fun s' nd I' => ⟨_, I', q u rv nd⟩
theorem vSetN_ok {h' : Hv} {o i v : Val} {z : V} {Q : Hp → Prop} (R : HR X.K g H h) (ro : VR X.K g H o x) (ri : VR X.K g H i y) (rv : VR X.K g H v z) (e : vSetN o i v h = some h') (q : ∀ H', Ext g H g H' → HR X.K g H' h' → Q H') : rSetN X.K x y z H Q := by
  unfold vSetN at e
  split at e
  · rename_i a
    split at e
    · rename_i l hl
      split at e
      · rename_i hk
        cases e
        obtain ⟨j, b, xs, ys, ej, rfl, hm, hi, D⟩ := dnOf_ok (v := .ref a) (l := l) R ro (by simp [dnOf, hl])
        cases ej
        obtain ⟨c, nk, rfl, h1, h2, r⟩ := keyOk_ok ri hk.1
        refine ⟨g, b, c, l, xs, ys, i, nk, rfl, rfl, D, h1, h2, r, fun u ru nd => ?_⟩
        obtain ⟨E, R1⟩ := R.write (ob := .dn (dPutN l i v)) (o' := DN b (storedH xs nk c u)) hm (fun E => by
          obtain ⟨_, _, _, k1, k2⟩ := D.nr.to
          have nr : NR X.K g (upd H b (DN b (storedH xs nk c u))) l xs ys := NR.of D.np.ks D.np.dp D.np.vs (k1.ext R E) (k2.ext R E)
          obtain ⟨ys', nr'⟩ := nr.put h1 h2 (r.ext R E) (rv.ext R E) ru
          obtain ⟨p1, p2, p3, p4, p5⟩ := nr'.to
          have sz : (dPutN l i v).length ≤ sizeLine := by
            have h3 := dPutN_len l i v
            have h4 := line_lt hk.2
            omega
          exact ⟨_, ys', upd_same, ⟨D.np.sys, sz, p1, p2, nd, p3⟩, p4, p5⟩)
        exact q _ E R1
      · cases e
    · cases e
  · cases e
theorem gg_subN {o i : Expr} {dx di : Den} {pos : Pos} (hu : X.A.units + 200 < cLine) (hw : X.w = TheWorld.w) (ho : GE X W o dx) (hi : GE X W i di)
    (ha : ∀ v, assign (.Subscript o i pos) X.env v = (do
      let ov ← holding [v] (eval o X.env)
      let iv ← holding [v, ov] (eval i X.env)
      standAt pos
      holding [v, ov, iv] (setItem ov iv v)
      release [v, ov, iv] []) := by intro _; rfl) : GG X W (.Subscript o i pos) (gSubN dx di) := by
  refine PG.imp (pg_sub ho hi (set_dn hu hw) ha) fun y σ H Q ⟨g, l, h, v, S, R, r, A⟩ => ?_
  refine tG_T S R A fun x h1 g1 H1 x' E S1 R1 r1 A1 => ?_
  refine tG_T S1 R1 A1 fun z h2 g2 H2 z' E2 S2 R2 r2 A2 => ?_
  split at A2
  · rename_i h3 e
    exact vSetN_ok R2 (r1.ext R1 E2) r2 ((r.ext R E).ext R1 E2) e fun H' E3 R3 => A2 g2 H' σ E3 R3 (S2.ext R2 E3)
  · exact A2.elim
/-- {} -/
def dNewN : Den := fun _ h => .ok (.ref h.length) (h ++ [.dn []])
theorem dn_empty {P : Program} {w : World} {H : Hp} (hp : Heap) : ObjOk P w H (hp.push { cls := .type "dict", data := .dict #[] }) hp.objs.size (DN hp.objs.size []) :=
  ⟨⟨_, #[], 0, Heap.get?_push_size _ rfl, ⟨rfl, rfl, rfl⟩, rfl, rfl⟩, ⟨_, Heap.get?_push_size _ rfl⟩, fun p q ⟨o, es, ep, a1, a2, a3, a4⟩ st => ⟨o, es, ep, st _ a1, a2, a3, a4⟩⟩
def tNewN : TE := fun _ H Q => ∀ p, H p = none → (p == sysModules) = false → Q (.ref p) (upd H p (DN p []))
theorem pe_newN {pos : Pos} : PE X (.Dict [] [] pos) tNewN := ⟨fun pins s σ H Q I h =>
  wpAny_Dict_empty ⟨.ref s.heap.objs.size, _, I.laid (a := s.heap.objs.size) (o := DN s.heap.objs.size []) (t' := s.toks) (fun _ _ q => Heap.get?_push_of_some _ q) (Nat.le_refl _) (dn_empty s.heap), rfl, h _ (I.hok.fresh (Nat.le_refl _)) (beq_eq_false_iff_ne.mpr (Ne.symm (Nat.ne_of_lt I.big)))⟩⟩
theorem NP.nil {a : Addr} (h : (a == sysModules) = false) : NP a [] [] [] := ⟨h, Nat.zero_le _, rfl, by simp, List.nodup_nil, .nil⟩
theorem ge_newN {pos : Pos} : GE X W (.Dict [] [] pos) dNewN := PE.imp pe_newN fun σ H Q ⟨g, l, h, S, R, A⟩ p np ns => push_ok R A np fun E => ⟨[], [], upd_same, NP.nil ns, VRs.nil, VRs.nil⟩
end
end GH
set_option Elab.async false
set_option linter.all false
set_option maxRecDepth 100000
set_option maxHeartbeats 1000000
set_option autoImplicit false
/-! dict comprehensions whose keys are tuples. -/
namespace GH
open PySem PySem.Spec PyProof.Rows L2
variable [TheWorld]
section
variable {X : Cx}
theorem dictSet_dn {pins : List (Addr × Obj)} {σ : L2.St} {H : Hp} {s : Shared} {E : Value → Shared → Prop} {D : Addr} {y z : V} {ku zu : Value} {P : Hp → Prop} {Q : Unit → Shared → Prop} (hu : X.A.units + 200 < cLine) (hw : X.w = TheWorld.w)
    (I : Inv X pins σ H s) (ry : RelV y ku) (rz : RelV z zu) (p : rSetN X.K (.ref D) y z H P) (kk : ∀ H' s', P H' → Inv X pins σ H' s' → Q () s') : wpAny (model X.prog X.w) X.A (dictSet D ku zu) Q E s := by
  obtain ⟨g, a, b, l, xs, ys, k, nk, ea, rfl, d, hk, hd, rk, q⟩ := p
  injection ea with ea
  subst ea
  obtain rfl : ku = Value.ref b := ry
  have sz : xs.length ≤ sizeLine := by rw [d.len]; exact d.np.sz
  refine wpAny_dictSet_heap (hsz := sz) (knd := nestedKind X.prog X.w) (show X.A.units + 8 < cLine by omega) ⟨keyN_is I hk rk rfl, hd⟩ (dn_of I hw d.at_ d.np.nd d.nr) fun h' dd sb => ?_
  have nd : ((storedH xs nk b zu).map (·.1)).Nodup := let ⟨_, _, _, _, _, _, _, _, n⟩ := dd; n
  refine kk _ _ (q zu rz nd) (d_write I (by rw [d.at_]; exact True.intro) sb ?_ (dn_new hw dd))
  obtain ⟨o, _, _, there, _⟩ := dd
  exact ⟨o, there⟩
/-- what a turn's key and value do -/
def tKvN (K : PySem.W.Frag) (tt : TT) (tk tv : TE) (D : Addr) (Nx : Hp → Prop) (σ : L2.St) (H : Hp) : Prop := tt σ H fun b H3 => if b = true then tk σ H3 (fun y H4 => tv σ H4 fun z H5 => rSetN K (.ref D) y z H5 Nx) else Nx H3
def tDcN (K : PySem.W.Frag) (wi : TI) (g : TG) (tt : TT) (tk tv : TE) (vs : List Nat) : TE := fun σ H Q => wi σ H fun J H1 => ∀ D, H1 D = none → (D == sysModules) = false → ∃ W : Nat → Nat → Hp → Prop, (∃ m, W 0 m (upd H1 D (DN D []))) ∧
  ∀ i m H, W i m H → (J.stop i H ∧ Q (.ref D) H) ∨ (J.go i H ∧ ∃ Nx : Hp → Prop, (∀ H', Nx H' → ∃ m', m' < m ∧ W (i + 1) m' H') ∧ ∀ x H', J.yld i H x H' → g x (wipe σ vs) H' fun σ2 H2 => wipe σ2 vs = wipe σ vs ∧ tKvN K tt tk tv D Nx σ2 H2)
theorem pe_dcN {kx vx tg iter : Expr} {ifs : List Expr} {scope : Scope} {own : List (Str × Nat)} {pos : Pos} {wi : TI} {g : TG} {tt : TT} {tk tv : TE} (hu : X.A.units + 200 < cLine) (hw : X.w = TheWorld.w) (hc : X.calm = true) (hN : X.N.Nodup) (hi : PI X tg iter wi) (ok : BlkOk X.N X.env.scope scope own)
    (hg : ∀ (s : Shared) (H : Hp) (C : Addr) (cl : List (Str × Addr)) (fp : List Addr), PG (X.blk s H scope (compEnvC scope cl C X.env) fp) tg g)
    (ht : ∀ (s : Shared) (H : Hp) (C : Addr) (cl : List (Str × Addr)) (fp : List Addr), PTs (X.blk s H scope (compEnvC scope cl C X.env) fp) ifs tt)
    (hk : ∀ (s : Shared) (H : Hp) (C : Addr) (cl : List (Str × Addr)) (fp : List Addr), PE (X.blk s H scope (compEnvC scope cl C X.env) fp) kx tk)
    (he : ∀ (s : Shared) (H : Hp) (C : Addr) (cl : List (Str × Addr)) (fp : List Addr), PE (X.blk s H scope (compEnvC scope cl C X.env) fp) vx tv) (hs : ∀ x, foldedSetIterable iter X.env x = pure x) :
    PE X (.DictComp kx vx [⟨tg, iter, ifs, 0⟩] scope pos) (tDcN X.K wi g tt tk tv (own.map (·.2))) := by
  refine ⟨fun pins s σ H Q I h => ?_⟩
  rw [arm_eval_DictComp]
  have cells : ∀ y ∈ scope.names, y.2 = .free → ∃ c, X.env.cells.lookup y.1 = some c := by
    intro y hy e
    exact (ok.free y hy e).elim (fun k => I.ok.has _ (.inl k)) fun k => I.ok.has _ (.inr k)
  refine wpAny_comprehension_free (use := none) rfl hs (closure_ok cells) ok.kind (fun y hy e => by rw [ok.uniq y hy, e]) (thn (hi.run pins s σ H _ I h) fun xv s1 hx => thn hx fun itv s2 got => ?_)
  obtain ⟨it, fp, tn, J, H2, rfl, I2, T, st2, f2, q⟩ := got
  refine wpAny_newObj_type (newEnv_comp ?_)
  obtain ⟨D, eD⟩ : ∃ D, s2.heap.objs.size = D := ⟨_, rfl⟩
  rw [eD]
  have big : (D == sysModules) = false := by rw [← eD]; exact beq_eq_false_iff_ne.mpr (Ne.symm (Nat.ne_of_lt I2.big))
  have nD : H2 D = none := I2.hok.fresh (Nat.le_of_eq eD)
  obtain ⟨W, ⟨m0, w0⟩, turn⟩ := q D nD big
  have laid : Inv X pins σ (upd H2 D (DN D [])) { s2 with heap := s2.heap.push { cls := .type "dict", data := .dict #[] } } := by
    rw [← eD]
    exact I2.laid (t' := s2.toks) (fun b o e => Heap.get?_push_of_some _ e) (Nat.le_refl _) (dn_empty s2.heap)
  obtain ⟨s3, e3⟩ : ∃ s3 : Shared, { s2 with heap := s2.heap.push { cls := .type "dict", data := .dict #[] } } = s3 := ⟨_, rfl⟩
  have hp3 : s3.heap = s2.heap.push { cls := .type "dict", data := .dict #[] } := by rw [← e3]
  rw [e3] at laid
  have low : ∀ b ∈ fp, b < s2.heap.objs.size := by
    intro b hb
    obtain ⟨o, e, _⟩ := T.obj _ _ st2 b hb
    exact Heap.lt_size e
  have foot : ∀ b ∈ fp, FpOk X pins (upd H2 D (DN D [])) b ∧ b < s3.heap.objs.size := by
    intro b hb
    have lt := low b hb
    have ne : b ≠ D := by rw [← eD]; exact Nat.ne_of_lt lt
    exact ⟨⟨(upd_ne ne).trans (f2 b hb).1, (f2 b hb).2⟩, by rw [hp3, Heap.size_push]; exact Nat.lt_succ_of_lt lt⟩
  have st3 : tn 0 s3.heap := T.keep _ _ _ st2 fun b _ o e => by rw [hp3]; exact Heap.get?_push_of_some _ e
  have begun := block_start laid ok hN foot
  obtain ⟨H3, eH3⟩ : ∃ H3, upd H2 D (DN D []) = H3 := ⟨_, rfl⟩
  rw [eH3] at laid begun w0 foot
  let cl := cellsFrom (s3.heap.objs.size + 1) scope.names (cloFrom X.env.cells scope.names [])
  have pg := hg s3 H3 s3.heap.objs.size cl fp
  have pt := ht s3 H3 s3.heap.objs.size cl fp
  have pk := hk s3 H3 s3.heap.objs.size cl fp
  have pv := he s3 H3 s3.heap.objs.size cl fp
  rw [e3]
  obtain ⟨ce, eCe⟩ : ∃ ce, compEnvC scope cl s3.heap.objs.size X.env = ce := ⟨_, rfl⟩
  have ceL : ce.locals = s3.heap.objs.size := by rw [← eCe]; rfl
  change L2.Inv (X.blk s3 H3 scope (compEnvC scope cl s3.heap.objs.size X.env) fp) _ _ _ _ at begun
  rw [eCe] at begun pg pt pk pv
  let B := X.blk s3 H3 scope ce fp
  let τ := wipe σ (own.map (·.2))
  have clean : ∀ {σ' : L2.St} {H' : Hp} {s' : Shared}, Inv B [] σ' H' s' → (∀ b ∈ fp, H' b = none) → ∀ b ∈ fp, FpOk B [] H' b := by
    intro σ' H' s' I' hn b hb
    obtain ⟨e1, e2⟩ := I'.ok.exf b hb
    exact ⟨hn b hb, e1, I'.ok.exfs b hb, .inl hb, fun x c e => e2 x c e, fun p hp => by cases hp⟩
  show codeAny (model X.prog X.w) X.A (.compStart (.DictComp kx vx [⟨tg, iter, ifs, 0⟩] scope pos) 0 (.ref it) (.ref D) (compEnvC scope cl s3.heap.objs.size X.env)) _ _
  rw [eCe]
  obtain ⟨s4, e4⟩ : ∃ s4 : Shared, { s3 with heap := pushCells (s3.heap.push { cls := .type "dict", data := .dict #[] }) scope.names } = s4 := ⟨_, rfl⟩
  rw [e4] at begun
  have st4 : tn 0 s4.heap := T.keep _ _ _ st3 fun b _ o e => by rw [← e4]; exact pushCells_keeps _ _ _ _ (Heap.get?_push_of_some _ e)
  have turns : codeAny (model X.prog X.w) X.A (.compLoop (.DictComp kx vx [⟨tg, iter, ifs, 0⟩] scope pos) 0 (.ref it) (.ref D) ce) (compPost (model X.prog X.w) X.A X.xe none (EP X pins σ Q) (.ref D) s3.heap.objs.size) s4 := by
    refine compLoop_anyD (fun n s' => ∃ i H', Inv B [] τ H' s' ∧ tn i s'.heap ∧ (∀ b ∈ fp, H' b = none) ∧ W i n H') ?_ m0 ⟨0, H3, begun, st4, fun b hb => (foot b hb).1.1, w0⟩
    rintro n s5 ⟨i, H5, I5, st5, n5, w5⟩
    rcases turn i n H5 w5 with ⟨stop, end_⟩ | ⟨go, Nx, less, step⟩
    · refine thnF (T.done B rfl rfl rfl hc i [] s5 τ H5 (fun _ _ => False) I5 (clean I5 n5) st5 stop) fun r s6 ⟨hr, I6⟩ => ?_
      subst hr
      have I7 : Inv X pins σ H5 s6 := laid.call' (ch := fp) I6.os I6.base I6.hok I6.bare fun b hb =>
        let ⟨_, a1, a2, a3, a4, a5⟩ := (foot b hb).1
        ⟨a3, a1, a4, a5⟩
      obtain ⟨m, ns, _⟩ := I6.loc
      have free : H5 ce.locals = none := I6.free
      have ns : s6.heap.Ns ce.locals m := ns
      rw [ceL] at free ns
      refine ⟨m, ns, fun h'' sb => ?_⟩
      obtain ⟨f0, f1, f2, f3, f4, f5⟩ := laid.fpOk (Nat.le_refl _) free
      exact ⟨.ref D, H5, I7.turned (t' := s6.toks) (fun b o hb e => (sb.2 b hb).trans e) f0 f1 f3 f4 f5, rfl, end_⟩
    · refine thnF (T.item B rfl rfl rfl hc i [] s5 τ H5 (fun _ _ => False) I5 (clean I5 n5) st5 go) fun r s6 ⟨u, hr, h6⟩ => ?_
      subst hr
      refine thnF h6 fun _ s7 ⟨x, H7, I7, r7, y7, st7, n7⟩ => ?_
      have p7 := I7.pinned (clean I7 n7) (T.obj _ _ st7)
      refine thnF (pg.run _ s7 _ H7 x u _ p7 r7 (step x H7 y7)) fun _ s8 ⟨σ8, H8, I8, same, q8⟩ => ?_
      refine thnF (pt.run _ s8 σ8 H8 _ I8 q8) fun b s9 ⟨H9, I9, q9⟩ => ?_
      have last : ∀ (H' : Hp) (s' : Shared), Nx H' → Inv B ([] ++ pinsAt fp s7.heap) σ8 H' s' → ∃ m, m < n ∧ ∃ i H', Inv B [] τ H' s' ∧ tn i s'.heap ∧ (∀ b ∈ fp, H' b = none) ∧ W i m H' := by
        intro H' s' nx I'
        obtain ⟨m', lt, w'⟩ := less H' nx
        have kept : ∀ b ∈ fp, ∀ o, s7.heap.get? b = some o → s'.heap.get? b = some o ∧ H' b = none := by
          intro b hb o e
          have z := I'.pin (b, o) (List.mem_append_right _ (List.mem_append_right _ (mem_pinsAt hb e)))
          exact ⟨z.1, z.2.1⟩
        have len : τ.length = σ8.length := by
          have q := congrArg List.length same
          rw [wipe_length] at q
          exact q.symm
        have I'' := (I'.unpinned (pins := [])).weak len fun j v e => by
          have e : τ[j]? = some (some v) := e
          rw [show τ = wipe σ8 (own.map (·.2)) from same.symm] at e
          exact (wipe_some e).1
        refine ⟨m', lt, i + 1, H', I'', T.keep _ _ _ st7 fun b hb o e => (kept b hb o e).1, fun b hb => ?_, w'⟩
        obtain ⟨o, e, _⟩ := T.obj _ _ st7 b hb
        exact (kept b hb o e).2
      cases b with
      | false =>
        rw [if_neg Bool.false_ne_true] at q9 ⊢
        exact last _ _ q9 I9
      | true =>
        rw [if_pos rfl] at q9 ⊢
        refine thnF (pk.run _ s9 σ8 H9 _ I9 q9) fun z s10 ⟨yk, H10, I10, r10, q10⟩ => ?_
        refine thnF (pv.run _ s10 σ8 H10 _ I10 q10) fun z2 s11 ⟨yv, H11, I11, r11, w11⟩ => ?_
        exact dictSet_dn (X := B) hu hw I11 r10 r11 w11 last
  subst e4
  exact codeAny_compStart_dict turns (T.self X.A 0 _ _ _ st4 turns)
end
open Classical in
noncomputable def dcNL (t : Tg) (c : DenG Bool) (ek e : Den) (s : Src) : List Val → List (Val × Val) → Loc → Hv → Res (List (Val × Val))
  | [], acc, _, h => if srcOk s h then .ok acc h else .fail
  | x :: r, acc, l, h => if srcOk s h then (match t x l h with
    | .ok l1 h1 => (match c l1 h1 with
      | .ok b h2 => if b = true then (match ek l1 h2 with
        | .ok k h3 => (match e l1 h3 with
          | .ok v h4 => if keyOk k then dcNL t c ek e s r (dPutN acc k v) l h4 else .fail
          | _ => .fail)
        | _ => .fail) else dcNL t c ek e s r acc l h2
      | _ => .fail)
    | _ => .fail) else .fail
def finN (ys : List (Val × Val)) (h : Hv) : Res Val := .ok (.ref h.length) (h ++ [.dn ys])
noncomputable def dDcN (vs : List Nat) (di : DenG Src) (t : Tg) (c : DenG Bool) (ek e : Den) : Den := fun l h => (di l h).bind fun s h1 => (dcNL t c ek e s s.1 [] (wipeL l vs) h1).bind finN
section
variable {K : PySem.W.Frag}
theorem MutX.dn {D : Addr} {xs : List NE} : MutX D (DN D xs) := ⟨xs, rfl⟩
theorem NR.reset {g : Gh} {H : Hp} {D : Addr} {ds zs : HO} (hD : D ∈ g.r) (e0 : H D = some ds) (mu : MutX D ds) {l : List (Val × Val)} {xs : List NE} {ys : List V} (r : NR K g H l xs ys) : NR K g (upd H D zs) l xs ys := by
  obtain ⟨a1, a2, a3, a4, a5⟩ := r.to
  exact NR.of a1 a2 a3 (a4.reset hD e0 mu) (a5.reset hD e0 mu)
theorem NR.ext {g g' : Gh} {H H' : Hp} {h : Hv} (R : HR K g H h) (E : Ext g H g' H') {l : List (Val × Val)} {xs : List NE} {ys : List V} (r : NR K g H l xs ys) : NR K g' H' l xs ys := by
  obtain ⟨a1, a2, a3, a4, a5⟩ := r.to
  exact NR.of a1 a2 a3 (a4.ext R E) (a5.ext R E)
theorem finN_ok {W : WX} {σ : L2.St} {g1 g2 : Gh} {H1 H : Hp} {h h1 : Hv} {Q : VK} {D : Addr} {ys : List (Val × Val)} {xs : List NE} {zs : List V} (nD : H1 D = none) (R1 : HR K g1 H1 h1) (E : Ext ⟨g1.m, D :: g1.r⟩ (upd H1 D (DN D [])) g2 (upd H D (DN D []))) (R2 : HR K g2 H h) (d : DnAt K g2 H D ys xs zs)
    (A : After K W (vr K) σ g1 H1 Q (.ok (.ref h.length) (h ++ [.dn ys]))) : Q (.ref D) H := by
  have hD : D ∈ g2.r := by rw [E.r]; exact List.mem_cons_self ..
  have R3 := R2.reset (zs := DN D []) hD d.at_ MutX.dn MutX.dn
  have q := promote (o1 := DN D xs) (ob := .dn ys) R1 nD E R3 MutX.dn (fun hm ho => by
    obtain ⟨_, _, _, a4, a5⟩ := d.nr.to
    rw [upd_upd, upd_self' d.at_]
    exact ⟨xs, zs, d.at_, d.np, a4.own hm ho, a5.own hm ho⟩) A (fun ps z => by cases z)
  rw [upd_upd, upd_self' d.at_] at q
  exact q
theorem srcOk_of {t : Tg} {c : DenG Bool} {ek e : Den} {s : Src} {l : Loc} {h : Hv} {K' : PySem.W.Frag} {W : WX} {σ : L2.St} {g : Gh} {H : Hp} {Q : VK} (A : After K' W (vr K') σ g H Q ((dcNL t c ek e s s.1 [] l h).bind finN)) : srcOk s h := by
  cases hs1 : s.1 with
  | nil =>
    rw [hs1] at A
    simp only [dcNL] at A
    split at A
    · assumption
    · exact A.elim
  | cons x r =>
    rw [hs1] at A
    simp only [dcNL] at A
    split at A
    · assumption
    · exact A.elim
theorem keyOk_K {g : Gh} {H : Hp} {u : Val} {y : V} (r : VR K g H u y) (e : keyOk u = true) : ∃ b k, y = .ref b ∧ keyN u = some k ∧ k.depth ≤ 8 ∧ VR K g H u (.ref b) := by
  cases u with
  | tup l =>
    unfold keyOk at e
    cases q : keyN (.tup l) with
    | none => simp [q] at e
    | some k =>
      simp [q] at e
      have r' := r
      simp only [VR] at r
      obtain ⟨a, xs, rfl, _⟩ := r
      exact ⟨a, k, rfl, rfl, e, r'⟩
  | _ => simp [keyOk] at e
theorem dcN_red {W : WX} {vs : List Nat} {di : DenG Src} {t : Tg} {c : DenG Bool} {ek e : Den} {σ : L2.St} {H : Hp} {Q : VK} (z : tG K W (vr K) (dDcN vs di t c ek e) σ H Q) :
    tDcN K (tI K W di) (tTc K vs t) (tG K W0 br c) (tG K W0 (vr K) ek) (tG K W0 (vr K) e) vs σ H Q := by
  obtain ⟨g, l, h, S, R, A⟩ := z
  refine ⟨g, l, h, S, R, ?_⟩
  unfold dDcN at A
  unfold AfterI
  cases ed : di l h with
  | exc x h1 => rw [ed] at A; exact A
  | fail => rw [ed] at A; exact A
  | ok s h1 =>
    rw [ed] at A
    simp only [Res.bind_ok] at A
    refine ⟨srcOk_of A, fun g1 H1 J E1 R1 hz sv D nD sD => ?_⟩
    have A := After.ext E1 A
    have S1 := S.ext R E1
    obtain ⟨ES, RD⟩ := R1.aside (o := DN D []) nD MutX.dn
    let Wd : Nat → Hp → Prop := fun i H => ∃ g2 h2 ys xs zs, Ext ⟨g1.m, D :: g1.r⟩ (upd H1 D (DN D [])) g2 (upd H D (DN D [])) ∧ HR K g2 H h2 ∧ DnAt K g2 H D ys xs zs ∧ ys.length ≤ i ∧ i ≤ s.1.length ∧
      After K W (vr K) σ g1 H1 Q ((dcNL t c ek e s (s.1.drop i) ys (wipeL l vs) h2).bind finN)
    refine ⟨fun i m H => m = s.1.length - i ∧ Wd i H, ⟨s.1.length, by simp, ⟨g1.m, D :: g1.r⟩, h1, [], [], [], by rw [upd_upd]; exact Ext.refl, RD, ⟨upd_same, NP.nil sD, True.intro⟩, by simp, Nat.zero_le _, by simpa using A⟩, ?_⟩
    rintro i m H ⟨rfl, g2, h2, ys, xs, zs, E, R2, d, hl, hil, A⟩
    have hDr : D ∈ g2.r := by rw [E.r]; exact List.mem_cons_self ..
    have hDm : D ∉ g2.m := fun z => R2.dis D z hDr
    obtain ⟨tm, em, nm⟩ := E.m
    have em : g2.m = g1.m ++ tm := em
    have nm : ∀ b ∈ tm, Fre H1 b := fun b hb => by
      have q := nm b hb
      have hne : b ≠ D := by
        rintro rfl
        obtain ⟨ps, z⟩ := q _ upd_same
        cases z
      intro o z
      exact q o (by rw [upd_ne hne]; exact z)
    have keep : ∀ b o, H1 b = some o → (∀ ps, o ≠ .tbl ps) → b ∉ g1.m → H b = some o := fun b o e nt hb => by
      have hne := ne_of_none e nD
      have q := E.keepN b o (by rw [upd_ne hne]; exact e) nt hb
      rw [upd_ne hne] at q
      exact q
    have E2S : ExtS g1 H1 g2 H := ⟨⟨tm, em, nm⟩, ⟨[D], E.r, fun b hb => by rw [List.mem_singleton.mp hb]; exact fre_none nD⟩, fun b o e nt hb => keep b o e nt fun z => hb (.inl z)⟩
    have S2 : SR K g2 H (wipeL l vs) (wipe σ vs) := (S1.extS R1 E2S).wipe vs
    cases hd : s.1.drop i with
    | nil =>
      have hle : s.1.length ≤ i := List.drop_eq_nil_iff.mp hd
      rw [hd] at A
      simp only [dcNL] at A
      split at A
      · rename_i ok
        exact .inl ⟨(sv g2 H h2 E2S R2 ok i).2 (Nat.le_antisymm hil hle), finN_ok nD R1 E R2 d A⟩
      · exact A.elim
    | cons v rest =>
      have hlt : i < s.1.length := by
        by_cases q : i < s.1.length
        · exact q
        · rw [List.drop_eq_nil_iff.mpr (by omega)] at hd; cases hd
      have hv : s.1[i]? = some v := by
        have q := congrArg List.head? hd
        rw [List.head?_drop] at q
        simpa using q
      have hr : s.1.drop (i + 1) = rest := by
        have q := congrArg List.tail hd
        rw [List.tail_drop] at q
        simpa using q
      rw [hd] at A
      simp only [dcNL] at A
      split at A
      · rename_i ok
        obtain ⟨go, yl⟩ := (sv g2 H h2 E2S R2 ok i).1 v hv
        refine .inr ⟨go, Wd (i + 1), fun H' q => ⟨s.1.length - (i + 1), by omega, rfl, q⟩, fun x H' y => ?_⟩
        obtain ⟨E3, R3, rx⟩ := yl x H' y
        refine ⟨g2, wipeL l vs, h2, v, S2.ext R2 E3, R3, rx, ?_⟩
        cases et : t v (wipeL l vs) h2 with
        | exc x l1 h1 => rw [et] at A; exact A
        | fail => rw [et] at A; exact A
        | ok l3 h3 =>
          rw [et] at A
          simp only at A
          intro g4 H4 σ4 E4 R4 S4 w4
          refine ⟨w4.trans (wipe_wipe fun _ hu => hu), g4, l3, h3, S4, R4, ?_⟩
          cases ec : c l3 h3 with
          | exc x h1 => rw [ec] at A; exact A.elim
          | fail => rw [ec] at A; exact A.elim
          | ok b h5 =>
            rw [ec] at A
            simp only at A
            intro g5 H5 b' E5 R5 eb
            obtain rfl : b = b' := eb
            have E25 := (E3.trans E4).trans E5
            have dAt : ∀ {g6 : Gh} {H6 : Hp}, Ext g2 H g6 H6 → DnAt K g6 H6 D ys xs zs := fun E6 => ⟨E6.keepN D _ d.at_ (fun ps z => by cases z) hDm, d.np, d.nr.ext R2 E6⟩
            have turn : ∀ {g6 : Gh} {H6 : Hp}, Ext g2 H g6 H6 → Ext ⟨g1.m, D :: g1.r⟩ (upd H1 D (DN D [])) g6 (upd H6 D (DN D [])) := fun E6 => E.trans (E6.reset hDm d.at_ (fun ps z => by cases z) (fun ps z => by cases z))
            cases b with
            | false =>
              rw [if_neg Bool.false_ne_true] at A ⊢
              exact ⟨g5, h5, ys, xs, zs, turn E25, R5, dAt E25, by omega, hlt, by rw [hr]; exact A⟩
            | true =>
              rw [if_pos rfl] at A ⊢
              refine ⟨g5, l3, h5, S4.ext R4 E5, R5, ?_⟩
              cases ek0 : ek l3 h5 with
              | exc x h1 => rw [ek0] at A; exact A.elim
              | fail => rw [ek0] at A; exact A.elim
              | ok ky h5k =>
                rw [ek0] at A
                simp only at A
                intro g5k H5k kx E5k R5k rk
                refine ⟨g5k, l3, h5k, (S4.ext R4 E5).ext R5 E5k, R5k, ?_⟩
                cases ee : e l3 h5k with
                | exc x h1 => rw [ee] at A; exact A.elim
                | fail => rw [ee] at A; exact A.elim
                | ok y h6 =>
                  rw [ee] at A
                  simp only at A
                  intro g6 H6 xv E6 R6 rv
                  split at A
                  · rename_i hkk
                    have E26 := (E25.trans E5k).trans E6
                    have hD6 : D ∈ g6.r := by rw [E26.r]; exact hDr
                    have d6 := dAt E26
                    obtain ⟨kb, nk, rfl, h1k, h2k, rk6⟩ := keyOk_K (VR.ext R5k E6 rk) hkk
                    refine ⟨g6, D, kb, ys, xs, zs, ky, nk, rfl, rfl, d6, h1k, h2k, rk6, fun u ru nd => ?_⟩
                    obtain ⟨zs', nr'⟩ := NR.put h1k h2k (rk6.reset hD6 d6.at_ MutX.dn) (rv.reset hD6 d6.at_ MutX.dn) ru (d6.nr.reset (zs := DN D (storedH xs nk kb u)) hD6 d6.at_ MutX.dn)
                    obtain ⟨p1, p2, p3, p4, p5⟩ := nr'.to
                    have hlen := dPutN_len ys ky y
                    refine ⟨g6, h6, dPutN ys ky y, storedH xs nk kb u, zs', ?_, R6.reset hD6 d6.at_ MutX.dn MutX.dn, ⟨upd_same, ⟨sD, by omega, p1, p2, nd, p3⟩, nr'⟩, by omega, hlt, by rw [hr]; exact A⟩
                    rw [upd_upd]
                    exact turn E26
                  · exact A.elim
      · exact A.elim
end
section
variable {X : Cx} {W : WX}
theorem ge_dcN {kx vx tg iter : Expr} {ifs : List Expr} {scope : Scope} (own : List (Str × Nat)) {pos : Pos} {di : DenG Src} {t : Tg} {c : DenG Bool} {ek e : Den} (hu : X.A.units + 200 < cLine) (hw : X.w = TheWorld.w) (hc : X.calm = true) (hN : X.N.Nodup) (hi : GI X W tg iter di)
    (hg : ∀ (s : Shared) (H : Hp) (C : Addr) (cl : List (Str × Addr)) (fp : List Addr), GC (X.blk s H scope (compEnvC scope cl C X.env) fp) (own.map (·.2)) tg t) (ht : ∀ (s : Shared) (H : Hp) (C : Addr) (cl : List (Str × Addr)) (fp : List Addr), GTs (X.blk s H scope (compEnvC scope cl C X.env) fp) W0 ifs c)
    (hk : ∀ (s : Shared) (H : Hp) (C : Addr) (cl : List (Str × Addr)) (fp : List Addr), GE (X.blk s H scope (compEnvC scope cl C X.env) fp) W0 kx ek)
    (he : ∀ (s : Shared) (H : Hp) (C : Addr) (cl : List (Str × Addr)) (fp : List Addr), GE (X.blk s H scope (compEnvC scope cl C X.env) fp) W0 vx e) (ok : blkC X.N X.env.scope scope own = true := by first | rfl | decide +kernel) (hs : ∀ x, foldedSetIterable iter X.env x = pure x := by intro _; rfl) :
    GE X W (.DictComp kx vx [⟨tg, iter, ifs, 0⟩] scope pos) (dDcN (own.map (·.2)) di t c ek e) :=
  PE.imp (pe_dcN (g := tTc X.K (own.map fun p : Str × Nat => p.2) t) (tt := tG X.K W0 br c) (tk := tG X.K W0 (vr X.K) ek) (tv := tG X.K W0 (vr X.K) e) hu hw hc hN hi (blkOk_by ok) hg ht hk he hs) fun σ H Q z => dcN_red z
end
end GH
set_option Elab.async false
set_option linter.all false
set_option maxRecDepth 100000
set_option maxHeartbeats 1000000
set_option autoImplicit false
/-! plain Lean: more steps as equations. -/
namespace GH
open PySem
variable [TheWorld]
section
variable {di : DenG Src} {d e : Den} {t : Tg} {b rest : Stm} {l l1 : GH.Loc} {h h1 h2 : Hv} {it : List Val} {i : Nat} {v x y z : Val}
theorem for_eq (e : di l h = .ok (it, none) h1) : sSeq (sFor di t b) rest l h = (forL t b (it, none) it l h1).andThen rest := by
  rw [e_seq, e_for, e, Res.to_ok]
theorem aug_eq {f : Val → Val → Hv → Res Val} (hl : l[i]? = some (some x)) (e : d l h = .ok y h1) (e2 : f x y h1 = .ok z h2) : sSeq (sAug i f d) rest l h = rest (l.set i (some z)) h2 := by
  rw [e_seq]
  simp only [sAug, hl, e, Res.to_ok, e2, SRes.andThen_nx]
theorem mkR_ok {vs : List Val} (e : vs.length ≤ 16777216) : mkRef vs h = .ok (.ref h.length) (h ++ [.lst vs]) := by simp [mkRef, lineN, e]
theorem dv (e : l[i]? = some (some v)) : dVar i l h = .ok v h := by simp [dVar, e]
theorem lev_s (F : Gam → Gam) (k j : Nat) : lev F (k + 1) j = F (lev F k) j := rfl
/-- a loop by what holds behind each part of its items -/
theorem for_ind {α : Type} (V : α → Val) (R : List α → GH.Loc → Hv → Prop) {it : List Val} : ∀ (L pre : List α) (l : GH.Loc) (h : Hv), R pre l h →
    (∀ p x q l h, pre ++ L = p ++ x :: q → R p l h → ∃ l1 h1 l2 h2, t (V x) l h = .ok l1 h1 ∧ b l1 h1 = .nx l2 h2 ∧ R (p ++ [x]) l2 h2) → ∃ l' h', forL t b (it, none) (L.map V) l h = .nx l' h' ∧ R (pre ++ L) l' h'
  | [], pre, l, h, r, _ => ⟨l, h, for_nil, by rw [List.append_nil]; exact r⟩
  | x :: L, pre, l, h, r, step => by
    obtain ⟨l1, h1, l2, h2, e1, e2, r2⟩ := step pre x L l h rfl r
    obtain ⟨l', h', e3, r3⟩ := for_ind V R L (pre ++ [x]) l2 h2 r2 fun p y q l h e => step p y q l h (by rw [← e]; simp)
    refine ⟨l', h', ?_, by simpa using r3⟩
    simp only [List.map_cons, forL, srcOk_none, if_true, e1, e2, SRes.turn_nx]
    simpa using e3
theorem dlc_eq {α : Type} {vs : List Nat} (V G : α → Val) (L : List α) (ed : di l h = .ok (L.map V, none) h) (q : ∀ p ∈ L, ∃ l1, t (V p) (wipeL l vs) h = .ok l1 h ∧ e l1 h = .ok (G p) h) : dLc frozen vs di t dYes e l h = .ok (.lst (L.map G)) h := by
  unfold dLc
  rw [ed, Res.bind_ok, lcL_mapL V G (srcOk_none _ _) L [] q]
  rfl
theorem dlcF_eq {α : Type} {vs : List Nat} {c : DenG Bool} (V G : α → Val) (F : α → Bool) (L : List α) (ed : di l h = .ok (L.map V, none) h) (q : ∀ p ∈ L, ∃ l1, t (V p) (wipeL l vs) h = .ok l1 h ∧ c l1 h = .ok (F p) h ∧ (F p = true → e l1 h = .ok (G p) h)) : dLc frozen vs di t c e l h = .ok (.lst ((L.filter F).map G)) h := by
  unfold dLc
  rw [ed, Res.bind_ok, lcL_filL V F G (srcOk_none _ _) L [] q]
  rfl
theorem rng1_eq {n : Nat} (hn : n ≤ 16777216) : vRange1 (.int (n : Int)) h = .ok ((List.range n).map fun j : Nat => Val.int j, none) h := by
  rw [rng_ok hn, show rangeL 0 n = (List.range n).map fun j : Nat => Val.int j from List.map_congr_left fun j _ => by rw [Int.zero_add]]
theorem vTuple_lst (L : List Val) : vTuple (.lst L) h = .ok (.tup L) h := nrfl rfl
theorem vAll_map {α : Type} (F : α → Bool) (L : List α) : vAll (.lst (L.map fun x => .bl (F x))) h = .ok (.bl (L.all F)) h := by
  have := vAll_bls (L.map F) h
  rw [List.map_map] at this
  simpa [List.all_map, Function.comp_def] using this
end
end GH
set_option Elab.async false
set_option linter.all false
set_option maxRecDepth 100000
set_option maxHeartbeats 1000000
set_option autoImplicit false
/-! plain Lean: dicts with tuples as keys. -/
namespace GH
open PySem
variable [TheWorld]
theorem keysN_ints : ∀ p : List Int, keysN (p.map .int) = some (p.map .num)
  | [] => rfl
  | i :: p => by simp only [List.map_cons, keysN, keyN, keysN_ints p, Option.bind_some, Option.map_some]
theorem keyN_pv (p : List Int) : keyN (pv p) = some (.tup (p.map .num)) := by
  simp only [keyN, keysN_ints, Option.map_some]
theorem num_inj {p q : List Int} (e : p.map NestedKey.num = q.map .num) : p = q := List.map_inj_right (fun _ _ e => by injection e) |>.mp e
theorem kEqN_pv (p q : List Int) : kEqN (pv p) (pv q) = decide (p = q) := by
  unfold kEqN
  rw [keyN_pv, keyN_pv]
  refine decide_eq_decide.mpr ⟨fun e => ?_, fun e => by rw [e]⟩
  injection e with e
  injection e with e
  exact num_inj e
section
variable {l : List (Val × Val)} {k v k2 : Val}
theorem kEqN_iff {a b : Val} : kEqN a b = true ↔ keyN a = keyN b := by unfold kEqN; exact decide_eq_true_iff
theorem dGetN_any : (dGetN l k).isSome = l.any fun p => kEqN p.1 k := by
  unfold dGetN
  rw [Option.isSome_map]
  induction l with
  | nil => rfl
  | cons p l ih =>
    rw [List.find?_cons, List.any_cons, ← ih]
    cases kEqN p.1 k <;> simp
theorem find_map_ne {l : List (Val × Val)} (ne : kEqN k k2 = false) : (l.map fun p => if kEqN p.1 k then (p.1, v) else p).find? (fun p => kEqN p.1 k2) = l.find? fun p => kEqN p.1 k2 := by
  induction l with
  | nil => rfl
  | cons p l ih =>
    rw [List.map_cons]
    by_cases c : kEqN p.1 k = true
    · have c2 : kEqN p.1 k2 = false := by
        rw [← ne]
        unfold kEqN
        rw [kEqN_iff.mp c]
      simp only [c, if_true, List.find?_cons, c2, ih]
    · simp only [c, if_false, List.find?_cons, ih, Bool.false_eq_true]
theorem find_map_eq {l : List (Val × Val)} (a : (l.any fun p => kEqN p.1 k) = true) (eq : kEqN k k2 = true) : ((l.map fun p => if kEqN p.1 k then (p.1, v) else p).find? (fun p => kEqN p.1 k2)).map (·.2) = some v := by
  induction l with
  | nil => simp at a
  | cons p l ih =>
    rw [List.map_cons]
    by_cases c : kEqN p.1 k = true
    · have c2 : kEqN p.1 k2 = true := by rw [kEqN_iff, kEqN_iff.mp c, kEqN_iff.mp eq]
      simp only [c, if_true, List.find?_cons, c2, Option.map_some]
    · have c2 : kEqN p.1 k2 = false := by
        rw [Bool.eq_false_iff]
        intro z
        exact c (by rw [kEqN_iff, kEqN_iff.mp z, kEqN_iff.mp eq])
      simp only [List.any_cons, c, Bool.false_or] at a
      simp only [c, if_false, List.find?_cons, c2, Bool.false_eq_true]
      exact ih a
theorem dGetN_put : dGetN (dPutN l k v) k2 = if kEqN k k2 then some v else dGetN l k2 := by
  unfold dPutN
  by_cases c : (l.any fun p => kEqN p.1 k) = true
  · rw [if_pos c]
    by_cases q : kEqN k k2 = true
    · rw [if_pos q]
      exact find_map_eq c q
    · rw [if_neg q]
      unfold dGetN
      rw [find_map_ne (Bool.eq_false_iff.mpr q)]
  · rw [if_neg c]
    unfold dGetN
    rw [List.find?_append]
    by_cases q : kEqN k k2 = true
    · rw [if_pos q]
      have n : l.find? (fun p => kEqN p.1 k2) = none := by
        rw [List.find?_eq_none]
        intro p hp z
        refine c (List.any_eq_true.mpr ⟨p, hp, ?_⟩)
        rw [kEqN_iff, kEqN_iff.mp z, kEqN_iff.mp q]
      simp [n, q]
    · rw [if_neg q]
      simp [q]
end
/-- what a dict comprehension makes -/
theorem dcN_ind {α : Type} (V K W : α → Val) {t : Tg} {ek e : Den} {s : Src} {l : GH.Loc} {h : Hv} (hs : srcOk s h) : ∀ (L : List α) (acc : List (Val × Val)), (∀ p ∈ L, ∃ l1, t (V p) l h = .ok l1 h ∧ ek l1 h = .ok (K p) h ∧ e l1 h = .ok (W p) h ∧ keyOk (K p) = true) →
    dcNL t dYes ek e s (L.map V) acc l h = .ok (L.foldl (fun a p => dPutN a (K p) (W p)) acc) h
  | [], acc, _ => by simp [dcNL, hs]
  | p :: L, acc, q => by
    obtain ⟨l1, e1, e2, e3, e4⟩ := q p (List.mem_cons_self ..)
    have ih := dcN_ind V K W hs L (dPutN acc (K p) (W p)) fun p hp => q p (List.mem_cons_of_mem _ hp)
    simp only [List.map_cons, dcNL, hs, if_true, e1, e_yes, e2, e3, e4, ih, List.foldl_cons]
theorem dcN_eq {α : Type} {vs : List Nat} (V K W : α → Val) {di : DenG Src} {t : Tg} {ek e : Den} {l : GH.Loc} {h : Hv} (L : List α) (ed : di l h = .ok (L.map V, none) h) (q : ∀ p ∈ L, ∃ l1, t (V p) (wipeL l vs) h = .ok l1 h ∧ ek l1 h = .ok (K p) h ∧ e l1 h = .ok (W p) h ∧ keyOk (K p) = true) :
    dDcN vs di t dYes ek e l h = .ok (.ref h.length) (h ++ [.dn (L.foldl (fun a p => dPutN a (K p) (W p)) [])]) := by
  unfold dDcN
  rw [ed, Res.bind_ok, dcN_ind V K W (srcOk_none _ _) L [] q]
  rfl
theorem enum_map {α : Type} (V : α → Val) (L : List α) : enumL (L.map V) = L.zipIdx.map fun p => .tup [.int (p.2 : Nat), V p.1] := by
  unfold enumL
  rw [List.mapIdx_eq_zipIdx_map, List.zipIdx_map, List.map_map]
  rfl
theorem ixN_eq {i : Nat} {l : List (Val × Val)} {u v : Val} {h : Hv} (e : h[i]? = some (.dn l)) (k : keyOk u = true) (g : dGetN l u = some v) : vIxN (.ref i) u h = .ok v h := by
  simp [vIxN, dnOf, e, k, g]
theorem inN_eq {i : Nat} {l : List (Val × Val)} {u : Val} {h : Hv} (e : h[i]? = some (.dn l)) (k : keyOk u = true) : vInN u (.ref i) h = .ok (.bl (dGetN l u).isSome) h := by
  rw [dGetN_any]
  simp [vInN, isInN, dnOf, e, k]
theorem setN_eq {i : Nat} {l : List (Val × Val)} {u v : Val} {h : Hv} (e : h[i]? = some (.dn l)) (k : keyOk u = true) (n : l.length < 16777216) : vSetN (.ref i) u v h = some (h.set i (.dn (dPutN l u v))) := by
  simp [vSetN, e, k, lineN, n]
theorem asg2_eq {d : Den} {t : Tg} {rest : Stm} {l l1 : GH.Loc} {h h1 h2 : Hv} {v : Val} (e : d l h = .ok v h1) (e2 : t v l h1 = .ok l1 h2) : sSeq (sAsg d t) rest l h = rest l1 h2 := by
  rw [e_seq, e_asg, e, Res.to_ok, e2, TRes.s_ok, SRes.andThen_nx]
end GH
set_option Elab.async false
set_option linter.all false
set_option maxRecDepth 100000
set_option maxHeartbeats 1000000
set_option autoImplicit false
/-! a slice of a list, as a list that is written. -/
namespace GH
open PySem PySem.Spec PyProof.Rows L2
variable [TheWorld]
def vCutM (v : Val) (lo hi : Option Int) (h : Hv) : Res Val := match lstOf h v with
  | some l => .ok (.ref h.length) (h ++ [.lst (cut l lo hi)])
  | none => .fail
def dCutM (d : Den) (lo hi : DO) : Den := fun l h => (d l h).bind fun v h1 => (lo l h1).bind fun a h2 => (hi l h2).bind fun b h3 => vCutM v a b h3
section
variable {X : Cx} {W : WX}
theorem ge_cutM {e : Expr} {d : Den} {lo hi : Option Expr} {dl dh : DO} {pos p2 : Pos} (he : GE X W e d) (hl : GO X W lo dl) (hh : GO X W hi dh) : GE X W (.Subscript e (.Slice lo hi none p2) pos) (dCutM d dl dh) := by
  refine PE.imp (pe_slice (sl_list.or (sl_tupA.or sl_str)) he hl hh) fun σ H Q ⟨g, l, h, S, R, A⟩ => ?_
  refine tG_of S R A fun v h1 g1 H1 x E S1 R1 r1 A1 => ?_
  refine tG_of S1 R1 A1 fun a h2 g2 H2 a' E2 S2 R2 e2 A2 => ?_
  refine tG_of S2 R2 A2 fun b h3 g3 H3 b' E3 S3 R3 e3 A3 => ?_
  obtain rfl : a = a' := e2
  obtain rfl : b = b' := e3
  have r := (r1.ext R1 E2).ext R2 E3
  unfold vCutM at A3
  split at A3
  · rename_i k hk
    obtain ⟨p, xs, rfl, s, rs⟩ := lstOf_ok R3 r hk
    exact .inl ⟨p, xs, rfl, SqL.of s, fun q nq => push_ok R3 A3 nq fun E => ⟨_, upd_same, (rs.cut' a b).ext R3 E⟩⟩
  · exact A3.elim
end
theorem cutM_eq {d : Den} {lo hi : DO} {l : GH.Loc} {h : Hv} {i : Nat} {xs : List Val} {a b : Option Int} (e : d l h = .ok (.ref i) h) (x : h[i]? = some (.lst xs)) (e1 : lo l h = .ok a h) (e2 : hi l h = .ok b h) : dCutM d lo hi l h = .ok (.ref h.length) (h ++ [.lst (cut xs a b)]) := by
  unfold dCutM
  rw [e, Res.bind_ok, e1, Res.bind_ok, e2, Res.bind_ok]
  simp [vCutM, lstOf, x]
end GH
set_option Elab.async false
set_option linter.all false
set_option maxRecDepth 100000
set_option maxHeartbeats 1000000
set_option autoImplicit false
/-! t[::-1] of a tuple. -/
namespace HT
open PySem PySem.Spec PyProof.Rows
section
variable {prog : Program} {w : World} {A : Around} {E : Value → Shared → Prop} {s : Shared}
theorem gh_adjustR (n : Nat) : Builtin.Slice.sliceAdjust none none (-1) (n : Int) = ((n : Int) - 1, -1) := rfl
theorem gh_placesR (n : Nat) : Builtin.Slice.slicePlaces ((n : Int) - 1) (-1) (-1) = n := by
  unfold Builtin.Slice.slicePlaces
  cases n with
  | zero => rfl
  | succ n =>
    simp
    omega
theorem gh_appliedR {sl : Addr} {vl vu vs : Value} {n : Nat} {Q : Int × Int × Nat → Shared → Prop} (hs : s.heap.IsSliceOf sl vl vu vs) (pl : IsPart vl none) (pu : IsPart vu none) (ps : IsPart vs (some (-1)))
    (h : Q ((n : Int) - 1, -1, n) s) : wpAny (model prog w) A (Builtin.Slice.sliceApplied (.ref sl) (pure (n : Int))) Q E s := by
  obtain ⟨os, hos, hcs, hds⟩ := id hs
  unfold Builtin.Slice.sliceApplied Builtin.Slice.sliceFields
  refine wpAny_bind (wpAny_bind (wpAny_field hos hds (x := vl) rfl (wpAny_bind (wpAny_field hos hds (x := vu) rfl (wpAny_bind (wpAny_field hos hds (x := vs) rfl (wpAny_pure ?_)))))))
  refine wpAny_bind (slicePart_ ps ?_)
  show wpAny _ _ (if ((-1 : Int) == 0) = true then _ else _) _ _ s
  rw [if_neg (by decide)]
  refine wpAny_bind (slicePart_ pl (wpAny_bind (slicePart_ pu (wpAny_bind (wpAny_pure ?_)))))
  show wpAny _ _ (match Builtin.Slice.sliceAdjust none none (-1) (n : Int) with | (lo, hi) => pure (lo, (-1 : Int), Builtin.Slice.slicePlaces lo hi (-1))) _ _ s
  rw [gh_adjustR n]
  show wpAny _ _ (pure ((n : Int) - 1, (-1 : Int), Builtin.Slice.slicePlaces ((n : Int) - 1) (-1) (-1))) _ _ s
  rw [gh_placesR]
  exact wpAny_pure h
theorem gh_pick_listR (xs : List Value) : ((List.range xs.length).filterMap fun (m : Nat) => xs[(((xs.length : Nat) : Int) - 1 + (m : Int) * -1).toNat]?) = xs.reverse := by
  have gen : ∀ k, k ≤ xs.length → ((List.range k).filterMap fun (m : Nat) => xs[(((xs.length : Nat) : Int) - 1 + (m : Int) * -1).toNat]?) = (xs.drop (xs.length - k)).reverse := by
    intro k
    induction k with
    | zero => intro _; simp
    | succ k ih =>
      intro hk
      rw [List.range_succ, List.filterMap_append, ih (by omega)]
      have e : (((xs.length : Nat) : Int) - 1 + (k : Int) * -1).toNat = xs.length - (k + 1) := by omega
      have hlt : xs.length - (k + 1) < xs.length := by omega
      simp only [List.filterMap_cons, e, List.getElem?_eq_getElem hlt, List.filterMap_nil]
      have d := List.drop_eq_getElem_cons hlt
      rw [d, show xs.length - (k + 1) + 1 = xs.length - k by omega]
      simp
  rw [gen xs.length (Nat.le_refl _), Nat.sub_self, List.drop_zero]
theorem gh_pickR (xs : Array Value) : ((List.range xs.size).filterMap fun (m : Nat) => xs[((xs.size : Int) - 1 + (m : Int) * -1).toNat]?).toArray = (xs.toList.reverse).toArray := by
  have := gh_pick_listR xs.toList
  simp only [Array.length_toList, Array.getElem?_toList] at this
  rw [this]
theorem gh_getItemR {t sl : Addr} {items : Array Value} {vl vu vs : Value} {Q : Value → Shared → Prop} (ht : IsTup s.heap t items) (hs : s.heap.IsSliceOf sl vl vu vs) (pl : IsPart vl none) (pu : IsPart vu none) (ps : IsPart vs (some (-1)))
    (h : Q (.ref s.heap.objs.size) { s with heap := s.heap.push { cls := .type "tuple", data := .seq (items.toList.reverse).toArray } })
    (hsz : items.size ≤ sizeLine) : wpAny (model prog w) A (getItem (.ref t) (.ref sl)) Q E s := by
  have htake : sizeOk (.seq (items.toList.reverse).toArray) := by
    show (items.toList.reverse).toArray.size ≤ sizeLine
    rw [List.size_toArray, List.length_reverse, Array.length_toList]
    exact hsz
  obtain ⟨os, hos, hcs, hds⟩ := id hs
  have hTs : s.TypeIs (.ref sl) "slice" := ⟨os, hos, hcs⟩
  unfold getItem
  try with_reducible refine wpAny_holding ?_
  first | refine wpAny_bind (wpAny_pure ?_) | skip
  refine wpAny_bind (wpAny_sequenceKey ht.typeIs (by decide) ?_)
  refine wpAny_bind (wpAny_callSpecial?_slot (name := Str.ofString "__getitem__") ht.typeIs PyProof.Rows.slot_tuple_getitem
    (wpAny_call_entry PyProof.Rows.slot_tuple_getitem ht.typeIs entry_tuple_getitem ?_ (args_tuple_getitem _ _)))
  show wpAny _ _ (Builtin.Tuple.tupleItemsOf (.ref t) >>= _) _ _ s
  refine wpAny_bind (tupleItemsOf_ ht ?_)
  refine wpAny_bind (wpAny_typeOf hTs ?_)
  rw [if_pos (by decide)]
  refine wpAny_bind (gh_appliedR hs pl pu ps ?_)
  have hno : ¬ ((((items.size : Int) - 1) == 0 && (-1 : Int) == 1 && items.size == items.size) = true) := by
    intro q
    rw [Bool.and_eq_true, Bool.and_eq_true] at q
    exact absurd (eq_of_beq q.1.2) (by decide)
  show wpAny _ _ (if (((items.size : Int) - 1) == 0 && (-1 : Int) == 1 && items.size == items.size) = true then _ else _) _ _ s
  rw [if_neg hno, gh_pickR]
  first
    | exact wpAny_bind (m := Builtin.Tuple.tupleExact _) (wpAny_newObj_type (wpAny_pure ⟨_, rfl, wpAny_pure h⟩) htake)
    | exact wpAny_bind (m := Builtin.Tuple.tupleExact _) (wpAny_newObj_type (wpAny_bind (wpAny_pure (wpAny_pure ⟨_, rfl, wpAny_pure h⟩))) htake)
    | exact wpAny_bind (wpAny_bind (m := Builtin.Tuple.tupleExact _) (wpAny_newObj_type (wpAny_pure (wpAny_pure ⟨_, rfl, wpAny_pure h⟩)) htake))
    | exact wpAny_bind (wpAny_bind (m := Builtin.Tuple.tupleExact _) (wpAny_newObj_type (wpAny_pure ⟨_, rfl, wpAny_pure h⟩) htake))
end
end HT
namespace GH
open PySem PySem.Spec PyProof.Rows L2
variable [TheWorld]
section
variable {X : Cx} {W : WX}
def vRevT (v : Val) (h : Hv) : Res Val := match v with
  | .tup l => .ok (.tup l.reverse) h
  | _ => .fail
def tRevT (K : PySem.W.Frag) (te : TE) : TE := fun σ H Q => te σ H fun x H1 => ∃ a xs, x = .ref a ∧ SqT K H1 a xs ∧ ∀ p, H1 p = none → Q (.ref p) (upd H1 p (.tup xs.reverse))
theorem pe_revT {e : Expr} {te : TE} {k : Nat} {p1 p2 p3 pos : Pos} (he : PE X e te) : PE X (.Subscript e (.Slice none none (some (.UnaryOp .USub (.Constant (.int 1) k p1) p2)) p3) pos) (tRevT X.K te) := by
  refine ⟨fun pins s σ H Q I h => ?_⟩
  refine Subscript_ (thn (he.run pins s σ H _ I h) fun v s1 ⟨x, H1, I1, r1, q1⟩ => ?_)
  obtain ⟨a, xs, ex, hx, q⟩ := q1
  subst ex
  cases r1
  have hst : PO X (some (.UnaryOp .USub (.Constant (.int 1) k p1) p2)) (tPart (tUn (rU fun i => .int (-i)) (tC (.int 1)))) := po_some (pe_un un_neg pe_int)
  refine wpAny_Slice (thn (po_none.run pins s1 σ H1 (fun o H2 => o = none ∧ H2 = H1) I1 ⟨rfl, rfl⟩) fun vl s2 ⟨l, H2, I2, pl, el, e2⟩ => ?_)
  subst el e2
  refine thn (po_none.run pins s2 σ H2 (fun o H3 => o = none ∧ H3 = H2) I2 ⟨rfl, rfl⟩) fun vu s3 ⟨u, H3, I3, pu, eu, e3⟩ => ?_
  subst eu e3
  refine thn (hst.run pins s3 σ H3 (fun o H4 => o = some (-1) ∧ H4 = H3) I3 ⟨1, rfl, -1, rfl, rfl, rfl⟩) fun vs s4 ⟨o, H4, I4, ps, eo, e4⟩ => ?_
  subst eo e4
  have I5 : Inv X pins σ H4 { s4 with heap := s4.heap.push { cls := .type "slice", data := .fields #[vl, vu, vs] } } := I4.kept (t' := s4.toks) fun b ob q => Heap.get?_push_of_some _ q
  obtain ⟨its, r, ht, hz⟩ := I5.tuple hx
  have hlen := r.length
  refine tail_any (ops := [.ref a, .ref s4.heap.objs.size]) ht.typeIs (PyProof.Rows.slot_tuple_getitem.lookup) ?_ (by with_unfolding_all rfl)
  refine HT.gh_getItemR ht (Heap.IsSliceOf.new _ vl vu vs) pl pu ps ?_ (by rw [List.size_toArray]; omega)
  refine ⟨.ref _, _, I5.laid (t' := s4.toks) (o := .tup xs.reverse) (fun b ob q => Heap.get?_push_of_some _ q) (Nat.le_refl _) ?_, rfl, q _ (I5.hok.fresh (Nat.le_refl _))⟩
  exact ⟨by rw [List.length_reverse]; omega, _, r.reverse, IsTup.new _ _⟩
theorem ge_revT {e : Expr} {d : Den} {k : Nat} {p1 p2 p3 pos : Pos} (he : GE X W e d) : GE X W (.Subscript e (.Slice none none (some (.UnaryOp .USub (.Constant (.int 1) k p1) p2)) p3) pos) (dFn vRevT d) := by
  refine PE.imp (pe_revT he) fun σ H Q ⟨g, l, h, S, R, A⟩ => ?_
  refine tG_of S R A fun v h1 g1 H1 x E S1 R1 r1 A1 => ?_
  unfold vRevT at A1
  split at A1
  · have r1 : VR X.K g1 H1 (.tup _) x := r1
    simp only [VR] at r1
    obtain ⟨a, xs, rfl, hq, rs⟩ := r1
    refine ⟨a, xs, rfl, hq, fun p np => ?_⟩
    obtain ⟨E4, R4⟩ := R1.grow (o := .tup xs.reverse) np
    refine A1 g1 _ (.ref p) E4 R4 ?_
    simp only [VR]
    exact ⟨p, _, rfl, SqT.of upd_same, (rs.reverse).ext R1 E4⟩
  · exact A1.elim
end
end GH
set_option Elab.async false
set_option linter.all false
set_option maxRecDepth 100000
set_option maxHeartbeats 2000000
set_option autoImplicit false
namespace L07
open PySem PySem.Spec PyProof.Rows L2 GH
variable [TheWorld]
def top (i : Nat) : Stmt := PySem.Challenge.pw_grovehouse_k07_runs_of_machines.main.body.getD i (.Pass ⟨0, 0, 0, 0⟩)
def mth (i j : Nat) : Stmt := match top i with
  | .ClassDef _ _ _ b _ _ _ _ _ _ _ => b.getD j (.Pass ⟨0, 0, 0, 0⟩)
  | s => s

noncomputable def b_check_kind (Γ : Gam) : Stm := (sSeq (sAsg (dVar 0) (gTup 2 (gsCons (gName 1) (gsCons (gName 2) gsNil))))
    (sSeq (sIf (dOr (dB (dBin vNotIn (dVar 1) (dTup (dCons (dC (.int 1)) (dCons (dC (.int 2)) dNil))))) (dOr (dNot (dB (dChain vLe vLe (dC (.int 1)) (dLen (dVar 2)) (dC (.int 3))))) (dB (dBin vNe (dFn vList (dVar 2)) (dFn vSortSet (dVar 2)))))) (sSeq (sRaise [73, 110, 118, 97, 108, 105, 100, 75, 105, 110, 100])
    sNext) sNext)
    (sSeq (sIf (dNot (dTru (dFn vAll (dLc frozen [3] (iSeq (dVar 2)) (gName 3) dYes (dAndV (dBin vEq (dLen (dVar 3)) (dC (.int 1))) (dBin vIn (dVar 3) (dC (.str [97, 98, 99, 100, 101, 102, 103, 104, 105, 106, 107, 108, 109, 110, 111, 112, 113, 114, 115, 116, 117, 118, 119, 120, 121, 122])))))))) (sSeq (sRaise [73, 110, 118, 97, 108, 105, 100, 75, 105, 110, 100])
    sNext) sNext)
    sNext)))
noncomputable def d_check_kind (Γ : Gam) : DF := fun args h => runDef 4 (b_check_kind Γ) args h
noncomputable def b_all_marks (Γ : Gam) : Stm := (sSeq (sAsg (dLst (dCons (dTup dNil) dNil)) (gName 1))
    (sSeq (sFor (iRange1 (dVar 0)) (gName 2) (sSeq (sAsg (dLc2 frozen [3, 4] [4] (iSeq (dVar 1)) (gName 3) dYes (iSeq (dTup (dCons (dC (.int 0)) (dCons (dC (.int 1)) dNil)))) (gName 4) dYes (dBin vAdd (dVar 3) (dTup (dCons (dVar 4) dNil)))) (gName 1))
    sNext))
    (sSeq (sRet (dVar 1))
    sNext)))
noncomputable def d_all_marks (Γ : Gam) : DF := fun args h => runDef 5 (b_all_marks Γ) args h
noncomputable def b_signs (Γ : Gam) : Stm := (sSeq (sRet (dLc2 frozen [2, 3] [3] (iSeq (dBin vIx (dVar 0) (dC (.int 1)))) (gName 2) dYes (iSeq (dCall (Γ 1) (dCons (dVar 1) dNil))) (gName 3) dYes (dTup (dCons (dVar 2) (dCons (dVar 3) dNil)))))
    sNext)
noncomputable def d_signs (Γ : Gam) : DF := fun args h => runDef 4 (b_signs Γ) args h
noncomputable def b_is_number (Γ : Gam) : Stm := (sSeq (sRet (dAndV (dIsi .int (dVar 0)) (dAndV (dNotV (dIsi .bool (dVar 0))) (dChain vLe vLt (dC (.int 0)) (dVar 0) (dVar 1)))))
    sNext)
noncomputable def d_is_number (Γ : Gam) : DF := fun args h => runDef 2 (b_is_number Γ) args h
noncomputable def b_is_row (Γ : Gam) : Stm := (sSeq (sIf (dB (dBin vEq (dVar 2) (dC (.int 0)))) (sSeq (sRet (dCall (Γ 3) (dCons (dVar 0) (dCons (dVar 1) dNil))))
    sNext) sNext)
    (sSeq (sIf (dOr (dNot (dTru (dIsi .tuple (dVar 0)))) (dB (dBin vNe (dLen (dVar 0)) (dVar 1)))) (sSeq (sRet (dC (.bl false)))
    sNext) sNext)
    (sSeq (sRet (dFn vAll (dLc frozen [3] (iSeq (dVar 0)) (gName 3) dYes (dCall (Γ 4) (dCons (dVar 3) (dCons (dVar 1) (dCons (dBin vSub (dVar 2) (dC (.int 1))) dNil)))))))
    sNext)))
noncomputable def d_is_row (Γ : Gam) : DF := fun args h => runDef 4 (b_is_row Γ) args h
noncomputable def b_is_kind (Γ : Gam) : Stm := (sSeq (sIf (dOr (dNot (dTru (dIsi .tuple (dVar 0)))) (dOr (dB (dBin vNe (dLen (dVar 0)) (dC (.int 2)))) (dNot (dTru (dCall (Γ 3) (dCons (dBin vIx (dVar 0) (dC (.int 0))) (dCons (dC (.int 3)) dNil))))))) (sSeq (sRet (dC (.bl false)))
    sNext) sNext)
    (sSeq (sIf (dOr (dNot (dTru (dIsi .tuple (dBin vIx (dVar 0) (dC (.int 1)))))) (dNot (dTru (dFn vAll (dLc frozen [1] (iSeq (dBin vIx (dVar 0) (dC (.int 1)))) (gName 1) dYes (dIsi .str (dVar 1))))))) (sSeq (sRet (dC (.bl false)))
    sNext) sNext)
    (sSeq (sTry [([83, 97, 121, 69, 114, 114, 111, 114], false), ([73, 110, 118, 97, 108, 105, 100, 75, 105, 110, 100], true)] (sSeq (sExpr (dCall (Γ 0) (dCons (dVar 0) dNil)))
    sNext) (sSeq (sRet (dC (.bl false)))
    sNext))
    (sSeq (sRet (dC (.bl true)))
    sNext))))
noncomputable def d_is_kind (Γ : Gam) : DF := fun args h => runDef 2 (b_is_kind Γ) args h
noncomputable def b_is_machine (Γ : Gam) : Stm := (sSeq (sAsg (dVar 0) (gTup 4 (gsCons (gName 1) (gsCons (gName 2) (gsCons (gName 3) (gsCons (gName 4) gsNil))))))
    (sSeq (sIf (dOr (dNot (dTru (dCall (Γ 5) (dCons (dVar 1) dNil)))) (dNot (dTru (dCall (Γ 3) (dCons (dVar 2) (dCons (dBin vAdd (dC (.int 6)) (dC (.int 1))) dNil)))))) (sSeq (sRet (dC (.bl false)))
    sNext) sNext)
    (sSeq (sIf (dOr (dNot (dTru (dIsi .tuple (dVar 3)))) (dNot (dTru (dIsi .tuple (dVar 4))))) (sSeq (sRet (dC (.bl false)))
    sNext) sNext)
    (sSeq (sIf (dOr (dNot (dB (dChain vLe vLe (dC (.int 1)) (dLen (dVar 4)) (dC (.int 300))))) (dNot (dTru (dFn vAll (dLc frozen [6] (iSeq (dVar 4)) (gName 6) dYes (dIsi .bool (dVar 6))))))) (sSeq (sRet (dC (.bl false)))
    sNext) sNext)
    (sSeq (sIf (dB (dBin vNe (dLen (dVar 3)) (dBin vMul (dLen (dBin vIx (dVar 1) (dC (.int 1)))) (dLen (dCall (Γ 1) (dCons (dVar 2) dNil)))))) (sSeq (sRet (dC (.bl false)))
    sNext) sNext)
    (sSeq (sRet (dFn vAll (dLc frozen [5] (iSeq (dVar 3)) (gName 5) dYes (dCall (Γ 4) (dCons (dVar 5) (dCons (dLen (dVar 4)) (dCons (dBin vIx (dVar 1) (dC (.int 0))) dNil)))))))
    sNext))))))
noncomputable def d_is_machine (Γ : Gam) : DF := fun args h => runDef 7 (b_is_machine Γ) args h
noncomputable def b_state_above (Γ : Gam) : Stm := (sSeq (sAsg (dBin vIx (dBin vIx (dVar 0) (dC (.int 2))) (dVar 1)) (gName 3))
    (sSeq (sFor (iSeq (dVar 2)) (gName 4) (sSeq (sAsg (dBin vIx (dVar 3) (dVar 4)) (gName 3))
    sNext))
    (sSeq (sRet (dVar 3))
    sNext)))
noncomputable def d_state_above (Γ : Gam) : DF := fun args h => runDef 5 (b_state_above Γ) args h
noncomputable def b_state_of (Γ : Gam) : Stm := (sSeq (sAsg (dCall (Γ 12) (dCons (dBin vIx (dVar 0) (dC (.int 0))) (dCons (dBin vIx (dVar 0) (dC (.int 1))) dNil))) (gName 2))
    (sSeq (sAsg (dLstM dNil) (gName 3))
    (sSeq (sAsg (dLstM (dCons (dTup (dCons (dVar 1) (dCons (dC (.bl false)) dNil))) dNil)) (gName 4))
    (sSeq (sWhile (dTru (dVar 4)) (sSeq (sAsg (dMeth0 isLst vPop (dVar 4)) (gTup 2 (gsCons (gName 5) (gsCons (gName 6) gsNil))))
    (sSeq (sIf (dNot (dTru (dVar 5))) (sSeq (sExpr (dMeth1 isLst vAppend (dVar 3) (dC (.int 0))))
    sNext) (sSeq (sIf (dTru (dVar 6)) (sSeq (sAsg (dBin vSub (dLen (dVar 5)) (dC (.int 1))) (gName 7))
    (sSeq (sAsg (dCut (dVar 3) (oSome (dBin vSub (dLen (dVar 3)) (dVar 7))) oNone) (gName 8))
    (sSeq (sAsg (dCutM (dVar 3) oNone (oSome (dBin vSub (dLen (dVar 3)) (dVar 7)))) (gName 3))
    (sSeq (sExpr (dMeth1 isLst vAppend (dVar 3) (dCall (Γ 7) (dCons (dVar 0) (dCons (dBin vIxN (dVar 2) (dBin vIx (dVar 5) (dC (.int 0)))) (dCons (dVar 8) dNil))))))
    sNext)))) (sSeq (sExpr (dMeth1 isLst vAppend (dVar 4) (dTup (dCons (dVar 5) (dCons (dC (.bl true)) dNil)))))
    (sSeq (sFor (iSeq (dFn vBack (dVar 5))) (gName 9) (sSeq (sExpr (dMeth1 isLst vAppend (dVar 4) (dTup (dCons (dVar 9) (dCons (dC (.bl false)) dNil)))))
    sNext))
    sNext)))
    sNext))
    sNext)))
    (sSeq (sRet (dBin vIx (dVar 3) (dC (.int 0))))
    sNext)))))
noncomputable def d_state_of (Γ : Gam) : DF := fun args h => tidy (runDef 10 (b_state_of Γ) args h) h
noncomputable def b_accepts (Γ : Gam) : Stm := (sSeq (sRet (dBin vIx (dBin vIx (dVar 0) (dC (.int 3))) (dCall (Γ 8) (dCons (dVar 0) (dCons (dVar 1) dNil)))))
    sNext)
noncomputable def d_accepts (Γ : Gam) : DF := fun args h => runDef 2 (b_accepts Γ) args h
noncomputable def b_mark (Γ : Gam) : Stm := (sSeq (sAsg (dLc frozen [3] (iSeq (dVar 1)) (gName 3) dYes (dDcN [4] (iSeq (dVar 3)) (gName 4) dYes (dVar 4) (dC (.bl true)))) (gName 2))
    (sSeq (sRet (dCall (Γ 11) (dCons (dVar 0) (dCons (dTup dNil) (dCons (dVar 2) dNil)))))
    sNext))
noncomputable def d_mark (Γ : Gam) : DF := fun args h => tidy (runDef 5 (b_mark Γ) args h) h
noncomputable def b_mark_part (Γ : Gam) : Stm := (sSeq (sIf (dNot (dTru (dVar 0))) (sSeq (sRet (dTup dNil))
    sNext) sNext)
    (sSeq (sAsg (dTup (dCons (dBin vIx (dVar 0) (dC (.int 0))) (dCons (dFn vTuple (dLc frozen [7] (iSeq (dVar 2)) (gName 7) dYes (dIf (dB (dBin vInN (dVar 1) (dVar 7))) (dC (.int 1)) (dC (.int 0))))) dNil))) (gName 3))
    (sSeq (sAsg (dLc frozen [5, 6] (iEnumG (dCut (dVar 0) (oSome (dC (.int 1))) oNone)) (gTup 2 (gsCons (gName 5) (gsCons (gName 6) gsNil))) dYes (dCall (Γ 11) (dCons (dVar 6) (dCons (dBin vAdd (dVar 1) (dTup (dCons (dVar 5) dNil))) (dCons (dVar 2) dNil))))) (gName 4))
    (sSeq (sRet (dBin vAdd (dTup (dCons (dVar 3) dNil)) (dFn vTuple (dVar 4))))
    sNext))))
noncomputable def d_mark_part (Γ : Gam) : DF := fun args h => runDef 8 (b_mark_part Γ) args h
noncomputable def b_rows_by_sign (Γ : Gam) : Stm := (sSeq (sRet (dDcN [2, 3] (iEnumG (dCall (Γ 2) (dCons (dVar 0) (dCons (dVar 1) dNil)))) (gTup 2 (gsCons (gName 2) (gsCons (gName 3) gsNil))) dYes (dVar 3) (dVar 2)))
    sNext)
noncomputable def d_rows_by_sign (Γ : Gam) : DF := fun args h => runDef 4 (b_rows_by_sign Γ) args h
noncomputable def b__law_tape (Γ : Gam) : Stm := (sSeq (sAsg (dLc frozen [3] (iSeq (dVar 0)) (gName 3) dYes (dFn vAbs (dFn vInt (dVar 3)))) (gName 1))
    (sSeq (sAsg (dC (.int 7)) (gName 2))
    (sSeq (sFor (iSeq (dVar 1)) (gName 3) (sSeq (sAsg (dBin vMod (dFn vInt (dBin vAdd (dBin vMul (dVar 2) (dC (.int 31))) (dVar 3))) (dC (.int 2147483647))) (gName 2))
    sNext))
    (sSeq (sRet (dDisp (((dC (.str [99, 101, 108, 108, 115])), (dVar 1)) :: (((dC (.str [97, 116])), (dC (.int 0))) :: (((dC (.str [108, 101, 102, 116])), (dC (.int 0))) :: (((dC (.str [115, 101, 101, 100])), (dVar 2)) :: (((dC (.str [115, 97, 108, 116])), (dC (.int 0))) :: [])))))))
    sNext))))
noncomputable def d__law_tape (Γ : Gam) : DF := fun args h => runDef 4 (b__law_tape Γ) args h
noncomputable def b__law_take (Γ : Gam) : Stm := (sSeq (sIf (dAnd (dB (dBin vEq (dBin vIx (dVar 0) (dC (.str [108, 101, 102, 116]))) (dC (.int 0)))) (dB (dBin vLt (dBin vIx (dVar 0) (dC (.str [97, 116]))) (dLen (dBin vIx (dVar 0) (dC (.str [99, 101, 108, 108, 115]))))))) (sSeq (sAsg (dBin vIx (dBin vIx (dVar 0) (dC (.str [99, 101, 108, 108, 115]))) (dBin vIx (dVar 0) (dC (.str [97, 116])))) (gSub (dVar 0) (dC (.str [108, 101, 102, 116]))))
    (sSeq (sAsg (dBin vAdd (dBin vIx (dVar 0) (dC (.str [97, 116]))) (dC (.int 1))) (gSub (dVar 0) (dC (.str [97, 116]))))
    sNext)) sNext)
    (sSeq (sIf (dB (dBin vGt (dBin vIx (dVar 0) (dC (.str [108, 101, 102, 116]))) (dC (.int 0)))) (sSeq (sAsg (dBin vMod (dFn vInt (dBin vIx (dVar 0) (dC (.str [108, 101, 102, 116])))) (dVar 1)) (gName 3))
    (sSeq (sAsg (dBin vDiv (dBin vIx (dVar 0) (dC (.str [108, 101, 102, 116]))) (dVar 1)) (gSub (dVar 0) (dC (.str [108, 101, 102, 116]))))
    (sSeq (sRet (dVar 3))
    sNext))) sNext)
    (sSeq (sAsg (dBin vAdd (dBin vIx (dVar 0) (dC (.str [115, 97, 108, 116]))) (dC (.int 1))) (gSub (dVar 0) (dC (.str [115, 97, 108, 116]))))
    (sSeq (sAsg (dBin vMod (dFn vInt (dBin vAdd (dBin vMul (dBin vIx (dVar 0) (dC (.str [115, 101, 101, 100]))) (dC (.int 48271))) (dBin vMul (dBin vIx (dVar 0) (dC (.str [115, 97, 108, 116]))) (dC (.int 69621))))) (dC (.int 2147483647))) (gName 2))
    (sSeq (sAsg (dBin vMod (dFn vInt (dBin vAdd (dBin vAdd (dBin vMul (dVar 2) (dVar 2)) (dBin vMul (dBin vIx (dVar 0) (dC (.str [115, 97, 108, 116]))) (dC (.int 40692)))) (dC (.int 12345)))) (dC (.int 2147483399))) (gName 2))
    (sSeq (sRet (dBin vMod (dFn vInt (dVar 2)) (dVar 1)))
    sNext))))))
noncomputable def d__law_take (Γ : Gam) : DF := fun args h => runDef 4 (b__law_take Γ) args h
noncomputable def b__law_is_integer (Γ : Gam) : Stm := (sSeq (sRet (dAndV (dIsi .int (dVar 0)) (dNotV (dIsi .bool (dVar 0)))))
    sNext)
noncomputable def d__law_is_integer (Γ : Gam) : DF := fun args h => runDef 1 (b__law_is_integer Γ) args h
noncomputable def b__law_same_items (Γ : Gam) : Stm := (sSeq (sIf (dB (dBin vNe (dLen (dVar 0)) (dLen (dVar 1)))) (sSeq (sRet (dC (.bl false)))
    sNext) sNext)
    (sSeq (sFor (iRange1 (dLen (dVar 1))) (gName 2) (sSeq (sIf (dNot (dTru (dCall (Γ 17) (dCons (dBin vIx (dVar 0) (dVar 2)) (dCons (dBin vIx (dVar 1) (dVar 2)) dNil))))) (sSeq (sRet (dC (.bl false)))
    sNext) sNext)
    sNext))
    (sSeq (sRet (dC (.bl true)))
    sNext)))
noncomputable def d__law_same_items (Γ : Gam) : DF := fun args h => runDef 3 (b__law_same_items Γ) args h
noncomputable def b__law_same (Γ : Gam) : Stm := (sSeq (sIf (dB (dBin vIsN (dVar 1) (dC .non))) (sSeq (sRet (dBin vIsN (dVar 0) (dC .non)))
    sNext) sNext)
    (sSeq (sIf (dTru (dIsi .bool (dVar 1))) (sSeq (sRet (dAndV (dIsi .bool (dVar 0)) (dBin vEq (dVar 0) (dVar 1))))
    sNext) sNext)
    (sSeq (sIf (dTru (dIsi .int (dVar 1))) (sSeq (sRet (dAndV (dCall (Γ 15) (dCons (dVar 0) dNil)) (dBin vEq (dVar 0) (dVar 1))))
    sNext) sNext)
    (sSeq (sIf (dTru (dIsi .str (dVar 1))) (sSeq (sRet (dAndV (dIsi .str (dVar 0)) (dBin vEq (dVar 0) (dVar 1))))
    sNext) sNext)
    (sSeq (sIf (dTru (dIsi .tuple (dVar 1))) (sSeq (sRet (dAndV (dIsi .tuple (dVar 0)) (dCall (Γ 16) (dCons (dVar 0) (dCons (dVar 1) dNil)))))
    sNext) sNext)
    (sSeq (sIf (dTru (dIsi .list (dVar 1))) (sSeq (sRet (dAndV (dIsi .list (dVar 0)) (dCall (Γ 16) (dCons (dVar 0) (dCons (dVar 1) dNil)))))
    sNext) sNext)
    (sSeq (sIf (dOr (dNot (dTru (dIsi .dict (dVar 0)))) (dB (dBin vNe (dLen (dVar 0)) (dLen (dVar 1))))) (sSeq (sRet (dC (.bl false)))
    sNext) sNext)
    (sSeq (sFor (iSeq (dVar 1)) (gName 2) (sSeq (sIf (dOr (dB (dBin vNotIn (dVar 2) (dVar 0))) (dNot (dTru (dCall (Γ 17) (dCons (dBin vIx (dVar 0) (dVar 2)) (dCons (dBin vIx (dVar 1) (dVar 2)) dNil)))))) (sSeq (sRet (dC (.bl false)))
    sNext) sNext)
    sNext))
    (sSeq (sFor (iSeq (dVar 0)) (gName 2) (sSeq (sIf (dTru (dIsi .bool (dVar 2))) (sSeq (sRet (dC (.bl false)))
    sNext) sNext)
    sNext))
    (sSeq (sRet (dC (.bl true)))
    sNext))))))))))
noncomputable def d__law_same (Γ : Gam) : DF := fun args h => runDef 3 (b__law_same Γ) args h
noncomputable def b__law_kind (Γ : Gam) : Stm := (sSeq (sAsg (dBin vIx (dTup (dCons (dTup (dCons (dC (.str [97])) dNil)) (dCons (dTup (dCons (dC (.str [97])) (dCons (dC (.str [98])) dNil))) (dCons (dTup (dCons (dC (.str [97])) (dCons (dC (.str [98])) dNil))) (dCons (dTup (dCons (dC (.str [98])) (dCons (dC (.str [100])) (dCons (dC (.str [122])) dNil)))) dNil))))) (dCall (Γ 14) (dCons (dVar 0) (dCons (dC (.int 4)) dNil)))) (gName 1))
    (sSeq (sRet (dTup (dCons (dBin vAdd (dC (.int 1)) (dBin vDiv (dCall (Γ 14) (dCons (dVar 0) (dCons (dC (.int 5)) dNil))) (dC (.int 3)))) (dCons (dVar 1) dNil))))
    sNext))
noncomputable def d__law_kind (Γ : Gam) : DF := fun args h => runDef 2 (b__law_kind Γ) args h
noncomputable def b__law_shape (Γ : Gam) : Stm := (sSeq (sIf (dB (dBin vEq (dVar 2) (dC (.int 0)))) (sSeq (sRet (dTup dNil))
    sNext) sNext)
    (sSeq (sAsg (dBin vIx (dBin vIx (dVar 1) (dC (.int 1))) (dCall (Γ 14) (dCons (dVar 0) (dCons (dLen (dBin vIx (dVar 1) (dC (.int 1)))) dNil)))) (gName 3))
    (sSeq (sIf (dB (dBin vEq (dBin vIx (dVar 1) (dC (.int 0))) (dC (.int 1)))) (sSeq (sRet (dTup (dCons (dVar 3) (dCons (dCall (Γ 19) (dCons (dVar 0) (dCons (dVar 1) (dCons (dBin vSub (dVar 2) (dC (.int 1))) dNil)))) dNil))))
    sNext) sNext)
    (sSeq (sAsg (dCall (Γ 14) (dCons (dVar 0) (dCons (dVar 2) dNil))) (gName 4))
    (sSeq (sRet (dTup (dCons (dVar 3) (dCons (dCall (Γ 19) (dCons (dVar 0) (dCons (dVar 1) (dCons (dVar 4) dNil)))) (dCons (dCall (Γ 19) (dCons (dVar 0) (dCons (dVar 1) (dCons (dBin vSub (dBin vSub (dVar 2) (dC (.int 1))) (dVar 4)) dNil)))) dNil)))))
    sNext)))))
noncomputable def d__law_shape (Γ : Gam) : DF := fun args h => runDef 5 (b__law_shape Γ) args h
noncomputable def b__law_paths (Γ : Gam) : Stm := (sSeq (sIf (dB (dBin vEq (dVar 0) (dTup dNil))) (sSeq (sRet (dLst dNil))
    sNext) sNext)
    (sSeq (sAsg (dLst (dCons (dVar 1) dNil)) (gName 2))
    (sSeq (sFor (iRange1 (dBin vSub (dLen (dVar 0)) (dC (.int 1)))) (gName 3) (sSeq (sAsg (dBin vAdd (dVar 2) (dCall (Γ 20) (dCons (dBin vIx (dVar 0) (dBin vAdd (dVar 3) (dC (.int 1)))) (dCons (dBin vAdd (dVar 1) (dTup (dCons (dVar 3) dNil))) dNil)))) (gName 2))
    sNext))
    (sSeq (sRet (dVar 2))
    sNext))))
noncomputable def d__law_paths (Γ : Gam) : DF := fun args h => runDef 4 (b__law_paths Γ) args h
noncomputable def b__law_signs (Γ : Gam) : Stm := (sSeq (sAsg (dLst (dCons (dTup dNil) dNil)) (gName 2))
    (sSeq (sFor (iRange1 (dVar 1)) (gName 3) (sSeq (sAsg (dLst dNil) (gName 6))
    (sSeq (sFor (iSeq (dVar 2)) (gName 7) (sSeq (sAsg (dBin vAdd (dVar 6) (dLst (dCons (dBin vAdd (dVar 7) (dTup (dCons (dC (.int 0)) dNil))) (dCons (dBin vAdd (dVar 7) (dTup (dCons (dC (.int 1)) dNil))) dNil)))) (gName 6))
    sNext))
    (sSeq (sAsg (dVar 6) (gName 2))
    sNext))))
    (sSeq (sAsg (dLst dNil) (gName 4))
    (sSeq (sFor (iSeq (dBin vIx (dVar 0) (dC (.int 1)))) (gName 5) (sSeq (sAsg (dBin vAdd (dVar 4) (dLc frozen [7] (iSeq (dVar 2)) (gName 7) dYes (dTup (dCons (dVar 5) (dCons (dVar 7) dNil))))) (gName 4))
    sNext))
    (sSeq (sRet (dVar 4))
    sNext)))))
noncomputable def d__law_signs (Γ : Gam) : DF := fun args h => runDef 8 (b__law_signs Γ) args h
noncomputable def b__law_above (Γ : Gam) : Stm := (sSeq (sAsg (dBin vIx (dBin vIx (dVar 0) (dC (.int 2))) (dVar 1)) (gName 3))
    (sSeq (sFor (iSeq (dVar 2)) (gName 4) (sSeq (sAsg (dBin vIx (dVar 3) (dVar 4)) (gName 3))
    sNext))
    (sSeq (sRet (dVar 3))
    sNext)))
noncomputable def d__law_above (Γ : Gam) : DF := fun args h => runDef 5 (b__law_above Γ) args h
noncomputable def b__law_run (Γ : Gam) : Stm := (sSeq (sIf (dB (dBin vEq (dVar 1) (dTup dNil))) (sSeq (sRet (dC (.int 0)))
    sNext) sNext)
    (sSeq (sRet (dCall (Γ 22) (dCons (dVar 0) (dCons (dBin vIxN (dVar 2) (dBin vIx (dVar 1) (dC (.int 0)))) (dCons (dLc frozen [3] (iSeq (dCut (dVar 1) (oSome (dC (.int 1))) oNone)) (gName 3) dYes (dCall (Γ 23) (dCons (dVar 0) (dCons (dVar 3) (dCons (dVar 2) dNil))))) dNil)))))
    sNext))
noncomputable def d__law_run (Γ : Gam) : DF := fun args h => runDef 4 (b__law_run Γ) args h
noncomputable def b__law_rows (Γ : Gam) : Stm := (sSeq (sAsg (dCall (Γ 21) (dCons (dVar 0) (dCons (dVar 1) dNil))) (gName 2))
    (sSeq (sAsg dNewN (gName 3))
    (sSeq (sFor (iRange1 (dLen (dVar 2))) (gName 4) (sSeq (sAsg (dVar 4) (gSubN (dVar 3) (dBin vIx (dVar 2) (dVar 4))))
    sNext))
    (sSeq (sRet (dVar 3))
    sNext))))
noncomputable def d__law_rows (Γ : Gam) : DF := fun args h => runDef 5 (b__law_rows Γ) args h
noncomputable def b__law_marked (Γ : Gam) : Stm := (sSeq (sIf (dB (dBin vEq (dVar 0) (dTup dNil))) (sSeq (sRet (dTup dNil))
    sNext) sNext)
    (sSeq (sAsg (dTup (dCons (dBin vIx (dVar 0) (dC (.int 0))) (dCons (dFn vTuple (dLc frozen [4] (iSeq (dVar 2)) (gName 4) dYes (dIf (dB (dBin vIn (dVar 1) (dVar 4))) (dC (.int 1)) (dC (.int 0))))) dNil))) (gName 3))
    (sSeq (sRet (dBin vAdd (dTup (dCons (dVar 3) dNil)) (dFn vTuple (dLc frozen [5] (iRange2 (dC (.int 1)) (dLen (dVar 0))) (gName 5) dYes (dCall (Γ 25) (dCons (dBin vIx (dVar 0) (dVar 5)) (dCons (dBin vAdd (dVar 1) (dTup (dCons (dBin vSub (dVar 5) (dC (.int 1))) dNil))) (dCons (dVar 2) dNil))))))))
    sNext)))
noncomputable def d__law_marked (Γ : Gam) : DF := fun args h => runDef 6 (b__law_marked Γ) args h
noncomputable def b__law_draw_machine (Γ : Gam) : Stm := (sSeq (sAsg (dLstM dNil) (gName 4))
    (sSeq (sFor (iSeq (dCall (Γ 21) (dCons (dVar 1) (dCons (dVar 2) dNil)))) (gName 5) (sSeq (sAsg (dLc frozen [7] (iRange1 (dVar 3)) (gName 7) dYes (dCall (Γ 14) (dCons (dVar 0) (dCons (dVar 3) dNil)))) (gName 6))
    (sSeq (sIf (dB (dBin vEq (dBin vIx (dVar 1) (dC (.int 0))) (dC (.int 2)))) (sSeq (sAsg (dLc frozen [8] (iRange1 (dVar 3)) (gName 8) dYes (dFn vTuple (dLc frozen [7] (iRange1 (dVar 3)) (gName 7) dYes (dCall (Γ 14) (dCons (dVar 0) (dCons (dVar 3) dNil)))))) (gName 6))
    sNext) sNext)
    (sSeq (sExpr (dMeth1 isLst vAppend (dVar 4) (dFn vTuple (dVar 6))))
    sNext))))
    (sSeq (sRet (dTup (dCons (dVar 1) (dCons (dVar 2) (dCons (dFn vTuple (dVar 4)) (dCons (dFn vTuple (dLc frozen [7] (iRange1 (dVar 3)) (gName 7) dYes (dBin vEq (dCall (Γ 14) (dCons (dVar 0) (dCons (dC (.int 2)) dNil))) (dC (.int 1))))) dNil))))))
    sNext)))
noncomputable def d__law_draw_machine (Γ : Gam) : DF := fun args h => runDef 9 (b__law_draw_machine Γ) args h
noncomputable def b__law_is_row (Γ : Gam) : Stm := (sSeq (sIf (dB (dBin vEq (dVar 2) (dC (.int 0)))) (sSeq (sRet (dAndV (dIsi .int (dVar 0)) (dAndV (dNotV (dIsi .bool (dVar 0))) (dChain vLe vLt (dC (.int 0)) (dVar 0) (dVar 1)))))
    sNext) sNext)
    (sSeq (sIf (dOr (dNot (dTru (dIsi .tuple (dVar 0)))) (dB (dBin vNe (dLen (dVar 0)) (dVar 1)))) (sSeq (sRet (dC (.bl false)))
    sNext) sNext)
    (sSeq (sRet (dBin vEq (dLc frozen [3] (iSeq (dVar 0)) (gName 3) (dNot (dTru (dCall (Γ 27) (dCons (dVar 3) (dCons (dVar 1) (dCons (dBin vSub (dVar 2) (dC (.int 1))) dNil)))))) (dVar 3)) (dLst dNil)))
    sNext)))
noncomputable def d__law_is_row (Γ : Gam) : DF := fun args h => runDef 4 (b__law_is_row Γ) args h
noncomputable def b__law_is_machine (Γ : Gam) : Stm := (sSeq (sAsg (dVar 0) (gTup 4 (gsCons (gName 2) (gsCons (gName 3) (gsCons (gName 4) (gsCons (gName 5) gsNil))))))
    (sSeq (sIf (dOr (dB (dBin vNotIn (dBin vIx (dVar 2) (dC (.int 0))) (dLst (dCons (dC (.int 1)) (dCons (dC (.int 2)) dNil))))) (dOr (dNot (dB (dChain vLe vLe (dC (.int 1)) (dLen (dBin vIx (dVar 2) (dC (.int 1)))) (dC (.int 3))))) (dOr (dNot (dB (dChain vLe vLe (dC (.int 0)) (dVar 3) (dC (.int 6))))) (dNot (dB (dChain vLe vLe (dC (.int 1)) (dLen (dVar 5)) (dC (.int 300)))))))) (sSeq (sRet (dC (.bl false)))
    sNext) sNext)
    (sSeq (sAsg (dFn vList (dBin vIx (dVar 2) (dC (.int 1)))) (gName 1))
    (sSeq (sIf (dOr (dB (dBin vNe (dVar 1) (dFn vSorted (dVar 1)))) (dB (dBin vNe (dLc frozen [8] (iRange2 (dC (.int 1)) (dLen (dVar 1))) (gName 8) (dB (dBin vEq (dBin vIx (dVar 1) (dVar 8)) (dBin vIx (dVar 1) (dBin vSub (dVar 8) (dC (.int 1)))))) (dVar 8)) (dLst dNil)))) (sSeq (sRet (dC (.bl false)))
    sNext) sNext)
    (sSeq (sIf (dB (dBin vNe (dLc frozen [6] (iSeq (dVar 1)) (gName 6) (dOr (dB (dBin vNe (dLen (dVar 6)) (dC (.int 1)))) (dNot (dB (dChain vLeS vLeS (dC (.str [97])) (dVar 6) (dC (.str [122])))))) (dVar 6)) (dLst dNil))) (sSeq (sRet (dC (.bl false)))
    sNext) sNext)
    (sSeq (sIf (dOr (dB (dBin vNe (dLc frozen [6] (iSeq (dVar 5)) (gName 6) (dNot (dTru (dIsi .bool (dVar 6)))) (dVar 6)) (dLst dNil))) (dB (dBin vNe (dLen (dVar 4)) (dLen (dCall (Γ 21) (dCons (dVar 2) (dCons (dVar 3) dNil))))))) (sSeq (sRet (dC (.bl false)))
    sNext) sNext)
    (sSeq (sRet (dBin vEq (dLc frozen [7] (iSeq (dVar 4)) (gName 7) (dNot (dTru (dCall (Γ 27) (dCons (dVar 7) (dCons (dLen (dVar 5)) (dCons (dBin vIx (dVar 2) (dC (.int 0))) dNil)))))) (dVar 7)) (dLst dNil)))
    sNext)))))))
noncomputable def d__law_is_machine (Γ : Gam) : DF := fun args h => runDef 9 (b__law_is_machine Γ) args h
noncomputable def b__law_spoilt (Γ : Gam) : Stm := (sSeq (sAsg (dVar 1) (gTup 4 (gsCons (gName 3) (gsCons (gName 4) (gsCons (gName 5) (gsCons (gName 6) gsNil))))))
    (sSeq (sAsg (dCall (Γ 14) (dCons (dVar 0) (dCons (dC (.int 8)) dNil))) (gName 2))
    (sSeq (sIf (dB (dBin vEq (dVar 2) (dC (.int 0)))) (sSeq (sRet (dTup (dCons (dTup (dCons (dBin vIx (dVar 3) (dC (.int 0))) (dCons (dBin vAdd (dFn vRevT (dBin vIx (dVar 3) (dC (.int 1)))) (dTup (dCons (dC (.str [99])) dNil))) dNil))) (dCons (dVar 4) (dCons (dVar 5) (dCons (dVar 6) dNil))))))
    sNext) sNext)
    (sSeq (sIf (dB (dBin vEq (dVar 2) (dC (.int 1)))) (sSeq (sRet (dTup (dCons (dVar 3) (dCons (dBin vAdd (dVar 4) (dC (.int 1))) (dCons (dVar 5) (dCons (dVar 6) dNil))))))
    sNext) sNext)
    (sSeq (sIf (dB (dBin vEq (dVar 2) (dC (.int 2)))) (sSeq (sRet (dTup (dCons (dVar 3) (dCons (dVar 4) (dCons (dCut (dVar 5) (oSome (dC (.int 1))) oNone) (dCons (dVar 6) dNil))))))
    sNext) sNext)
    (sSeq (sIf (dB (dBin vEq (dVar 2) (dC (.int 3)))) (sSeq (sRet (dTup (dCons (dVar 3) (dCons (dVar 4) (dCons (dVar 5) (dCons (dBin vAdd (dVar 6) (dTup (dCons (dC (.bl true)) dNil))) dNil))))))
    sNext) sNext)
    (sSeq (sIf (dB (dBin vEq (dVar 2) (dC (.int 4)))) (sSeq (sRet (dTup (dCons (dVar 3) (dCons (dVar 4) (dCons (dVar 5) (dCons (dBin vAdd (dCut (dVar 6) oNone (oSome (dNeg (dC (.int 1))))) (dTup (dCons (dC (.int 1)) dNil))) dNil))))))
    sNext) sNext)
    (sSeq (sIf (dB (dBin vEq (dVar 2) (dC (.int 5)))) (sSeq (sRet (dTup (dCons (dVar 3) (dCons (dVar 4) (dCons (dBin vAdd (dTup (dCons (dCut (dBin vIx (dVar 5) (dC (.int 0))) oNone (oSome (dNeg (dC (.int 1))))) dNil)) (dCut (dVar 5) (oSome (dC (.int 1))) oNone)) (dCons (dVar 6) dNil))))))
    sNext) sNext)
    (sSeq (sIf (dB (dBin vEq (dVar 2) (dC (.int 6)))) (sSeq (sRet (dTup (dCons (dVar 3) (dCons (dVar 4) (dCons (dBin vAdd (dTup (dCons (dBin vAdd (dCut (dBin vIx (dVar 5) (dC (.int 0))) oNone (oSome (dNeg (dC (.int 1))))) (dTup (dCons (dLen (dVar 6)) dNil))) dNil)) (dCut (dVar 5) (oSome (dC (.int 1))) oNone)) (dCons (dVar 6) dNil))))))
    sNext) sNext)
    (sSeq (sRet (dTup (dCons (dVar 3) (dCons (dVar 4) (dCons (dBin vAdd (dTup (dCons (dBin vAdd (dCut (dBin vIx (dVar 5) (dC (.int 0))) oNone (oSome (dNeg (dC (.int 1))))) (dTup (dCons (dC (.bl true)) dNil))) dNil)) (dCut (dVar 5) (oSome (dC (.int 1))) oNone)) (dCons (dVar 6) dNil))))))
    sNext))))))))))
noncomputable def d__law_spoilt (Γ : Gam) : DF := fun args h => runDef 7 (b__law_spoilt Γ) args h
noncomputable def b_law (Γ : Gam) : Stm := (sSeq (sAsg (dCall (Γ 13) (dCons (dVar 0) dNil)) (gName 1))
    (sSeq (sAsg (dCall (Γ 18) (dCons (dVar 1) dNil)) (gName 2))
    (sSeq (sAsg (dCall (Γ 14) (dCons (dVar 1) (dCons (dC (.int 3)) dNil))) (gName 3))
    (sSeq (sAsg (dCall (Γ 26) (dCons (dVar 1) (dCons (dVar 2) (dCons (dVar 3) (dCons (dBin vAdd (dC (.int 1)) (dCall (Γ 14) (dCons (dVar 1) (dCons (dC (.int 5)) dNil)))) dNil))))) (gName 4))
    (sSeq (sAsg (dCall (Γ 21) (dCons (dVar 2) (dCons (dVar 3) dNil))) (gName 5))
    (sSeq (sIf (dOr (dNot (dTru (dCall (Γ 17) (dCons (dCall (Γ 2) (dCons (dVar 2) (dCons (dVar 3) dNil))) (dCons (dVar 5) dNil))))) (dNot (dB (dBin vIsB (dCall (Γ 6) (dCons (dVar 4) dNil)) (dC (.bl true)))))) (sSeq (sRet (dC (.bl false)))
    sNext) sNext)
    (sSeq (sAsg (dCall (Γ 19) (dCons (dVar 1) (dCons (dVar 2) (dCons (dCall (Γ 14) (dCons (dVar 1) (dCons (dC (.int 10)) dNil))) dNil)))) (gName 6))
    (sSeq (sAsg (dLstM dNil) (gName 7))
    (sSeq (sFor (iRange1 (dVar 3)) (gName 8) (sSeq (sExpr (dMeth1 isLst vAppend (dVar 7) (dFn vTuple (dLc frozen [12] (iSeq (dFn vSorted (dCall (Γ 20) (dCons (dVar 6) (dCons (dTup dNil) dNil))))) (gName 12) (dB (dBin vEq (dCall (Γ 14) (dCons (dVar 1) (dCons (dC (.int 2)) dNil))) (dC (.int 1)))) (dVar 12)))))
    sNext))
    (sSeq (sAsg (dCall (Γ 25) (dCons (dVar 6) (dCons (dTup dNil) (dCons (dVar 7) dNil)))) (gName 9))
    (sSeq (sIf (dNot (dTru (dCall (Γ 17) (dCons (dCall (Γ 10) (dCons (dVar 6) (dCons (dVar 7) dNil))) (dCons (dVar 9) dNil))))) (sSeq (sRet (dC (.bl false)))
    sNext) sNext)
    (sSeq (sAsg (dCall (Γ 23) (dCons (dVar 4) (dCons (dVar 9) (dCons (dCall (Γ 24) (dCons (dVar 2) (dCons (dVar 3) dNil))) dNil)))) (gName 10))
    (sSeq (sIf (dOr (dNot (dTru (dCall (Γ 17) (dCons (dCall (Γ 8) (dCons (dVar 4) (dCons (dVar 9) dNil))) (dCons (dVar 10) dNil))))) (dNot (dTru (dCall (Γ 17) (dCons (dCall (Γ 9) (dCons (dVar 4) (dCons (dVar 9) dNil))) (dCons (dBin vIx (dBin vIx (dVar 4) (dC (.int 3))) (dVar 10)) dNil)))))) (sSeq (sRet (dC (.bl false)))
    sNext) sNext)
    (sSeq (sAsg (dCall (Γ 29) (dCons (dVar 1) (dCons (dVar 4) dNil))) (gName 11))
    (sSeq (sRet (dCall (Γ 17) (dCons (dCall (Γ 6) (dCons (dVar 11) dNil)) (dCons (dCall (Γ 28) (dCons (dVar 11) dNil)) dNil))))
    sNext)))))))))))))))
noncomputable def d_law (Γ : Gam) : DF := fun args h => runDef 13 (b_law Γ) args h
noncomputable def D (Γ : Gam) : Gam := fun j => match j with
  | 0 => d_check_kind Γ
  | 1 => d_all_marks Γ
  | 2 => d_signs Γ
  | 3 => d_is_number Γ
  | 4 => d_is_row Γ
  | 5 => d_is_kind Γ
  | 6 => d_is_machine Γ
  | 7 => d_state_above Γ
  | 8 => d_state_of Γ
  | 9 => d_accepts Γ
  | 10 => d_mark Γ
  | 11 => d_mark_part Γ
  | 12 => d_rows_by_sign Γ
  | 13 => d__law_tape Γ
  | 14 => d__law_take Γ
  | 15 => d__law_is_integer Γ
  | 16 => d__law_same_items Γ
  | 17 => d__law_same Γ
  | 18 => d__law_kind Γ
  | 19 => d__law_shape Γ
  | 20 => d__law_paths Γ
  | 21 => d__law_signs Γ
  | 22 => d__law_above Γ
  | 23 => d__law_run Γ
  | 24 => d__law_rows Γ
  | 25 => d__law_marked Γ
  | 26 => d__law_draw_machine Γ
  | 27 => d__law_is_row Γ
  | 28 => d__law_is_machine Γ
  | 29 => d__law_spoilt Γ
  | 30 => d_law Γ
  | _ => fun _ _ => .fail
def sig : List (Str × List Str) := [("check_kind", ["kind"]), ("all_marks", ["tracks"]), ("signs", ["kind", "tracks"]), ("is_number", ["value", "count"]), ("is_row", ["value", "count", "levels"]), ("is_kind", ["value"]), ("is_machine", ["value"]), ("state_above", ["machine", "row", "children"]), ("state_of", ["machine", "marked"]), ("accepts", ["machine", "marked"]), ("mark", ["shape", "sets"]), ("mark_part", ["shape", "path", "inside"]), ("rows_by_sign", ["kind", "tracks"]), ("_law_tape", ["script"]), ("_law_take", ["tape", "many"]), ("_law_is_integer", ["actual"]), ("_law_same_items", ["actual", "expected"]), ("_law_same", ["actual", "expected"]), ("_law_kind", ["tape"]), ("_law_shape", ["tape", "kind", "count"]), ("_law_paths", ["shape", "path"]), ("_law_signs", ["kind", "tracks"]), ("_law_above", ["machine", "row", "children"]), ("_law_run", ["machine", "marked", "rows"]), ("_law_rows", ["kind", "tracks"]), ("_law_marked", ["shape", "path", "sets"]), ("_law_draw_machine", ["tape", "kind", "tracks", "many"]), ("_law_is_row", ["value", "many", "levels"]), ("_law_is_machine", ["value"]), ("_law_spoilt", ["tape", "machine"]), ("law", ["script"])]
structure Fc (K : PySem.W.Frag) (mg : Str → Option Value) : Prop where
  f_abs : mg "abs" = none
  f_all : mg "all" = none
  f_bool : mg "bool" = none
  f_dict : mg "dict" = none
  f_enumerate : mg "enumerate" = none
  f_int : mg "int" = none
  f_isinstance : mg "isinstance" = none
  f_len : mg "len" = none
  f_list : mg "list" = none
  f_range : mg "range" = none
  f_set : mg "set" = none
  f_sorted : mg "sorted" = none
  f_str : mg "str" = none
  f_tuple : mg "tuple" = none
  c_MOST_STATES : ∃ t, mg "MOST_STATES" = some (.int 300 t)
  c_MOST_TRACKS : ∃ t, mg "MOST_TRACKS" = some (.int 6 t)
  c_LETTERS : ∃ t, mg "LETTERS" = some (.str (sOf [97, 98, 99, 100, 101, 102, 103, 104, 105, 106, 107, 108, 109, 110, 111, 112, 113, 114, 115, 116, 117, 118, 119, 120, 121, 122]) t)
  e_SayError : PySem.W.excIn K (clsA K [83, 97, 121, 69, 114, 114, 111, 114]) He.veBase "ValueError.__new__" = true ∧ PySem.W.keepIn K (.ref (clsA K [83, 97, 121, 69, 114, 114, 111, 114])) = true ∧ PySem.W.subIn K (.ref (clsA K [83, 97, 121, 69, 114, 114, 111, 114])) (.type "BaseException") = some true ∧ PySem.W.typeIn K (.ref (clsA K [83, 97, 121, 69, 114, 114, 111, 114])) = some (.type "type") ∧ mg "SayError" = some (.ref (clsA K [83, 97, 121, 69, 114, 114, 111, 114]))
  e_InvalidKind : PySem.W.excIn K (clsA K [73, 110, 118, 97, 108, 105, 100, 75, 105, 110, 100]) He.veBase "ValueError.__new__" = true ∧ PySem.W.keepIn K (.ref (clsA K [73, 110, 118, 97, 108, 105, 100, 75, 105, 110, 100])) = true ∧ PySem.W.subIn K (.ref (clsA K [73, 110, 118, 97, 108, 105, 100, 75, 105, 110, 100])) (.type "BaseException") = some true ∧ PySem.W.typeIn K (.ref (clsA K [73, 110, 118, 97, 108, 105, 100, 75, 105, 110, 100])) = some (.type "type") ∧ mg "InvalidKind" = some (.ref (clsA K [73, 110, 118, 97, 108, 105, 100, 75, 105, 110, 100]))
  m_InvalidKind : ∀ p ∈ ([([83, 97, 121, 69, 114, 114, 111, 114], false), ([73, 110, 118, 97, 108, 105, 100, 75, 105, 110, 100], true)] : List (List Nat × Bool)), PySem.W.exmOne K (.ref (clsA K p.1)) (.ref (clsA K [73, 110, 118, 97, 108, 105, 100, 75, 105, 110, 100])) = some p.2
abbrev FnP (K : PySem.W.Frag) (x : Str) (i : Nat) (fd : FuncData) : Prop := FunD K x x (defArgs (top i)) (defBody (top i)) (defScope (top i)) [] [] (He.ga K x) fd
section
variable {P : Program} {w : World} {K : PySem.W.Frag} {mg : Str → Option Value} {base : Heap} {k : Nat} {Γ : Gam}
theorem s_check_kind : FnScope ["kind", "ways", "labels", "label"] ["kind"] (defScope (top 5)) := ⟨rfl, rfl, rfl, by decide +kernel, rfl, by decide +kernel, by decide +kernel⟩
theorem w_check_kind (F : AllK P w K mg base sig k Γ) (hwW : w = TheWorld.w) (fc : Fc K mg) {fa : Addr} {cdv : Value} {A : Around} {outer : List PySem.Env} {s : Shared} {H : Hp} {E : XK} (hr : Room k (A.deeper (envOfC "check_kind" (defScope (top 5)) s.heap.objs.size fa cdv)))
    (hp : PassesOwn (model P w) (A.deeper (envOfC "check_kind" (defScope (top 5)) s.heap.objs.size fa cdv)) (envOfC "check_kind" (defScope (top 5)) s.heap.objs.size fa cdv) (cxOf (L2.CX P w) P w K mg base ["kind", "ways", "labels", "label"] "check_kind" (defScope (top 5)) fa cdv A outer s H E).xe)
    (tk : Takes (cxOf (L2.CX P w) P w K mg base ["kind", "ways", "labels", "label"] "check_kind" (defScope (top 5)) fa cdv A outer s H E) (WD E)) :
    GSs (cxOf (L2.CX P w) P w K mg base ["kind", "ways", "labels", "label"] "check_kind" (defScope (top 5)) fa cdv A outer s H E) (WD E) (defBody (top 5)) (b_check_kind Γ) := by
  have nd : (["kind", "ways", "labels", "label"] : List Str).Nodup := s_check_kind.nd
  have hu : (cxOf (L2.CX P w) P w K mg base ["kind", "ways", "labels", "label"] "check_kind" (defScope (top 5)) fa cdv A outer s H E).A.units + 200 < cLine := by
    have := hr.un
    show (A.deeper (envOfC "check_kind" (defScope (top 5)) s.heap.objs.size fa cdv)).units + 200 < cLine
    omega
  have hu1 : (cxOf (L2.CX P w) P w K mg base ["kind", "ways", "labels", "label"] "check_kind" (defScope (top 5)) fa cdv A outer s H E).A.units + 1 < cLine := by omega
  exact (gs_cons (gs_asg (ge_var 0) (gg_tup rfl (ggs_cons (gg_name 1 nd) (ggs_cons (gg_name 2 nd) ggs_nil))))
    (gs_cons (gs_if (GW.pt (gw_or (gt_cmp (og_notIn hu) (ge_var 1) (ge_tup (ga_cons ge_int (ga_cons ge_int ga_nil)))) (gw_or (gt_not (gt_chain og_le og_le ge_int (ge_len (ge_var 2) fc.f_len) ge_int)) (gw_or1 (gt_cmp (og_ne hu) (ge_t1 c1_list (ge_var 2) fc.f_list) (ge_sortSet rfl hu (ge_var 2) fc.f_sorted fc.f_set)))))) (gs_cons (gs_raise [73, 110, 118, 97, 108, 105, 100, 75, 105, 110, 100] rfl tk fc.e_InvalidKind.1 fc.e_InvalidKind.2.2.2.2 fc.e_InvalidKind.2.1 fc.e_InvalidKind.2.2.1 fc.e_InvalidKind.2.2.2.1)
    gs_nil) gs_nil)
    (gs_cons (gs_if (gt_not (gt_tru (ge_b1 (c1_all rfl) (ge_lc fin_frozen [("label", 3)] rfl nd (gi_seq (ge_var 2)) (fun _ _ _ _ _ => (gc_name 3 nd)) (fun _ _ _ _ _ => gts_nil) (fun _ _ _ _ _ => (ge_and (ge_cmp (og_eq hu) (ge_len (ge_var 3) fc.f_len) ge_int) (ge_one (ge_cmp (og_in hu) (ge_var 3) (ge_tops [97, 98, 99, 100, 101, 102, 103, 104, 105, 106, 107, 108, 109, 110, 111, 112, 113, 114, 115, 116, 117, 118, 119, 120, 121, 122] fc.c_LETTERS)))))) fc.f_all))) (gs_cons (gs_raise [73, 110, 118, 97, 108, 105, 100, 75, 105, 110, 100] rfl tk fc.e_InvalidKind.1 fc.e_InvalidKind.2.2.2.2 fc.e_InvalidKind.2.1 fc.e_InvalidKind.2.2.1 fc.e_InvalidKind.2.2.2.1)
    gs_nil) gs_nil)
    gs_nil)))
theorem k_check_kind {fd : FuncData} (F : AllK P w K mg base sig k Γ) (hwW : w = TheWorld.w) (fc : Fc K mg) (U : FnP K "check_kind" 5 fd) : FnOk P w K mg base (L2.CX P w) (k + 1) (He.ga K "check_kind") fd ["kind"] (spG K (d_check_kind Γ) 1) :=
  fn_G (k := k) U s_check_kind (fun args h _ => .inl rfl) fun cdv A outer s H E hr hp tk => w_check_kind F hwW fc hr hp tk
theorem s_all_marks : FnScope ["tracks", "result", "_", "marks", "bit"] ["tracks"] (defScope (top 9)) := ⟨rfl, rfl, rfl, by decide +kernel, rfl, by decide +kernel, by decide +kernel⟩
theorem w_all_marks (F : AllK P w K mg base sig k Γ) (hwW : w = TheWorld.w) (fc : Fc K mg) {fa : Addr} {cdv : Value} {A : Around} {outer : List PySem.Env} {s : Shared} {H : Hp} {E : XK} (hr : Room k (A.deeper (envOfC "all_marks" (defScope (top 9)) s.heap.objs.size fa cdv)))
    (hp : PassesOwn (model P w) (A.deeper (envOfC "all_marks" (defScope (top 9)) s.heap.objs.size fa cdv)) (envOfC "all_marks" (defScope (top 9)) s.heap.objs.size fa cdv) (cxOf (L2.CX P w) P w K mg base ["tracks", "result", "_", "marks", "bit"] "all_marks" (defScope (top 9)) fa cdv A outer s H E).xe)
    (tk : Takes (cxOf (L2.CX P w) P w K mg base ["tracks", "result", "_", "marks", "bit"] "all_marks" (defScope (top 9)) fa cdv A outer s H E) (WD E)) :
    GSs (cxOf (L2.CX P w) P w K mg base ["tracks", "result", "_", "marks", "bit"] "all_marks" (defScope (top 9)) fa cdv A outer s H E) (WD E) (defBody (top 9)) (b_all_marks Γ) := by
  have nd : (["tracks", "result", "_", "marks", "bit"] : List Str).Nodup := s_all_marks.nd
  have hu : (cxOf (L2.CX P w) P w K mg base ["tracks", "result", "_", "marks", "bit"] "all_marks" (defScope (top 9)) fa cdv A outer s H E).A.units + 200 < cLine := by
    have := hr.un
    show (A.deeper (envOfC "all_marks" (defScope (top 9)) s.heap.objs.size fa cdv)).units + 200 < cLine
    omega
  have hu1 : (cxOf (L2.CX P w) P w K mg base ["tracks", "result", "_", "marks", "bit"] "all_marks" (defScope (top 9)) fa cdv A outer s H E).A.units + 1 < cLine := by omega
  exact (gs_cons (gs_set 1 (ge_lst (ga_cons (ge_tup ga_nil) ga_nil)) nd)
    (gs_cons (gs_for hp rfl (gi_range1 (ge_var 0) fc.f_range) (gg_name 2 nd) (gs_cons (gs_setLc2 fin_frozen 1 [("marks", 3), ("bit", 4)] [4] rfl nd (gi_seq (ge_var 1)) (fun _ _ _ _ _ => (gc_name 3 nd)) (fun _ _ _ _ _ => gts_nil) (fun _ _ _ _ _ => (gi_seq (ge_tup (ga_cons ge_int (ga_cons ge_int ga_nil))))) (fun _ _ _ _ _ => (gc_name 4 nd)) (fun _ _ _ _ _ => gts_nil) (fun _ _ _ _ _ => (ge_bin og_add (ge_var 3) (ge_tup (ga_cons (ge_var 4) ga_nil)))))
    gs_nil))
    (gs_cons (gs_ret (ge_var 1))
    gs_nil)))
theorem k_all_marks {fd : FuncData} (F : AllK P w K mg base sig k Γ) (hwW : w = TheWorld.w) (fc : Fc K mg) (U : FnP K "all_marks" 9 fd) : FnOk P w K mg base (L2.CX P w) (k + 1) (He.ga K "all_marks") fd ["tracks"] (spG K (d_all_marks Γ) 1) :=
  fn_G (k := k) U s_all_marks (fun args h _ => .inl rfl) fun cdv A outer s H E hr hp tk => w_all_marks F hwW fc hr hp tk
theorem s_signs : FnScope ["kind", "tracks", "label", "marks"] ["kind", "tracks"] (defScope (top 10)) := ⟨rfl, rfl, rfl, by decide +kernel, rfl, by decide +kernel, by decide +kernel⟩
theorem w_signs (F : AllK P w K mg base sig k Γ) (hwW : w = TheWorld.w) (fc : Fc K mg) {fa : Addr} {cdv : Value} {A : Around} {outer : List PySem.Env} {s : Shared} {H : Hp} {E : XK} (hr : Room k (A.deeper (envOfC "signs" (defScope (top 10)) s.heap.objs.size fa cdv)))
    (hp : PassesOwn (model P w) (A.deeper (envOfC "signs" (defScope (top 10)) s.heap.objs.size fa cdv)) (envOfC "signs" (defScope (top 10)) s.heap.objs.size fa cdv) (cxOf (L2.CX P w) P w K mg base ["kind", "tracks", "label", "marks"] "signs" (defScope (top 10)) fa cdv A outer s H E).xe)
    (tk : Takes (cxOf (L2.CX P w) P w K mg base ["kind", "tracks", "label", "marks"] "signs" (defScope (top 10)) fa cdv A outer s H E) (WD E)) :
    GSs (cxOf (L2.CX P w) P w K mg base ["kind", "tracks", "label", "marks"] "signs" (defScope (top 10)) fa cdv A outer s H E) (WD E) (defBody (top 10)) (b_signs Γ) := by
  have nd : (["kind", "tracks", "label", "marks"] : List Str).Nodup := s_signs.nd
  have hu : (cxOf (L2.CX P w) P w K mg base ["kind", "tracks", "label", "marks"] "signs" (defScope (top 10)) fa cdv A outer s H E).A.units + 200 < cLine := by
    have := hr.un
    show (A.deeper (envOfC "signs" (defScope (top 10)) s.heap.objs.size fa cdv)).units + 200 < cLine
    omega
  have hu1 : (cxOf (L2.CX P w) P w K mg base ["kind", "tracks", "label", "marks"] "signs" (defScope (top 10)) fa cdv A outer s H E).A.units + 1 < cLine := by omega
  exact (gs_cons (gs_ret (ge_lc2 fin_frozen [("label", 2), ("marks", 3)] [3] rfl nd (gi_seq (ge_ix hu1 (ge_var 0) ge_int)) (fun _ _ _ _ _ => (gc_name 2 nd)) (fun _ _ _ _ _ => gts_nil) (fun _ _ _ _ _ => (gi_seq (ge_fn (F 1 _ _ rfl) hr GH.takes0 (gan_cons (ge_var 1) gan_nil)))) (fun _ _ _ _ _ => (gc_name 3 nd)) (fun _ _ _ _ _ => gts_nil) (fun _ _ _ _ _ => (ge_tup (ga_cons (ge_var 2) (ga_cons (ge_var 3) ga_nil))))))
    gs_nil)
theorem k_signs {fd : FuncData} (F : AllK P w K mg base sig k Γ) (hwW : w = TheWorld.w) (fc : Fc K mg) (U : FnP K "signs" 10 fd) : FnOk P w K mg base (L2.CX P w) (k + 1) (He.ga K "signs") fd ["kind", "tracks"] (spG K (d_signs Γ) 2) :=
  fn_G (k := k) U s_signs (fun args h _ => .inl rfl) fun cdv A outer s H E hr hp tk => w_signs F hwW fc hr hp tk
theorem s_is_number : FnScope ["value", "count"] ["value", "count"] (defScope (top 11)) := ⟨rfl, rfl, rfl, by decide +kernel, rfl, by decide +kernel, by decide +kernel⟩
theorem w_is_number (F : AllK P w K mg base sig k Γ) (hwW : w = TheWorld.w) (fc : Fc K mg) {fa : Addr} {cdv : Value} {A : Around} {outer : List PySem.Env} {s : Shared} {H : Hp} {E : XK} (hr : Room k (A.deeper (envOfC "is_number" (defScope (top 11)) s.heap.objs.size fa cdv)))
    (hp : PassesOwn (model P w) (A.deeper (envOfC "is_number" (defScope (top 11)) s.heap.objs.size fa cdv)) (envOfC "is_number" (defScope (top 11)) s.heap.objs.size fa cdv) (cxOf (L2.CX P w) P w K mg base ["value", "count"] "is_number" (defScope (top 11)) fa cdv A outer s H E).xe)
    (tk : Takes (cxOf (L2.CX P w) P w K mg base ["value", "count"] "is_number" (defScope (top 11)) fa cdv A outer s H E) (WD E)) :
    GSs (cxOf (L2.CX P w) P w K mg base ["value", "count"] "is_number" (defScope (top 11)) fa cdv A outer s H E) (WD E) (defBody (top 11)) (b_is_number Γ) := by
  have nd : (["value", "count"] : List Str).Nodup := s_is_number.nd
  have hu : (cxOf (L2.CX P w) P w K mg base ["value", "count"] "is_number" (defScope (top 11)) fa cdv A outer s H E).A.units + 200 < cLine := by
    have := hr.un
    show (A.deeper (envOfC "is_number" (defScope (top 11)) s.heap.objs.size fa cdv)).units + 200 < cLine
    omega
  have hu1 : (cxOf (L2.CX P w) P w K mg base ["value", "count"] "is_number" (defScope (top 11)) fa cdv A outer s H E).A.units + 1 < cLine := by omega
  exact (gs_cons (gs_ret (ge_and (ge_isi .int (ge_var 0) fc.f_isinstance fc.f_int) (ge_and (ge_not (ge_isi .bool (ge_var 0) fc.f_isinstance fc.f_bool)) (ge_one (ge_chain og_le og_lt ge_int (ge_var 0) (ge_var 1))))))
    gs_nil)
theorem k_is_number {fd : FuncData} (F : AllK P w K mg base sig k Γ) (hwW : w = TheWorld.w) (fc : Fc K mg) (U : FnP K "is_number" 11 fd) : FnOk P w K mg base (L2.CX P w) (k + 1) (He.ga K "is_number") fd ["value", "count"] (spG K (d_is_number Γ) 2) :=
  fn_G (k := k) U s_is_number (fun args h _ => .inl rfl) fun cdv A outer s H E hr hp tk => w_is_number F hwW fc hr hp tk
theorem s_is_row : FnScope ["value", "count", "levels", "part"] ["value", "count", "levels"] (defScope (top 12)) := ⟨rfl, rfl, rfl, by decide +kernel, rfl, by decide +kernel, by decide +kernel⟩
theorem w_is_row (F : AllK P w K mg base sig k Γ) (hwW : w = TheWorld.w) (fc : Fc K mg) {fa : Addr} {cdv : Value} {A : Around} {outer : List PySem.Env} {s : Shared} {H : Hp} {E : XK} (hr : Room k (A.deeper (envOfC "is_row" (defScope (top 12)) s.heap.objs.size fa cdv)))
    (hp : PassesOwn (model P w) (A.deeper (envOfC "is_row" (defScope (top 12)) s.heap.objs.size fa cdv)) (envOfC "is_row" (defScope (top 12)) s.heap.objs.size fa cdv) (cxOf (L2.CX P w) P w K mg base ["value", "count", "levels", "part"] "is_row" (defScope (top 12)) fa cdv A outer s H E).xe)
    (tk : Takes (cxOf (L2.CX P w) P w K mg base ["value", "count", "levels", "part"] "is_row" (defScope (top 12)) fa cdv A outer s H E) (WD E)) :
    GSs (cxOf (L2.CX P w) P w K mg base ["value", "count", "levels", "part"] "is_row" (defScope (top 12)) fa cdv A outer s H E) (WD E) (defBody (top 12)) (b_is_row Γ) := by
  have nd : (["value", "count", "levels", "part"] : List Str).Nodup := s_is_row.nd
  have hu : (cxOf (L2.CX P w) P w K mg base ["value", "count", "levels", "part"] "is_row" (defScope (top 12)) fa cdv A outer s H E).A.units + 200 < cLine := by
    have := hr.un
    show (A.deeper (envOfC "is_row" (defScope (top 12)) s.heap.objs.size fa cdv)).units + 200 < cLine
    omega
  have hu1 : (cxOf (L2.CX P w) P w K mg base ["value", "count", "levels", "part"] "is_row" (defScope (top 12)) fa cdv A outer s H E).A.units + 1 < cLine := by omega
  exact (gs_cons (gs_if (gt_cmp (og_eq hu) (ge_var 2) ge_int) (gs_cons (gs_ret (ge_fn (F 3 _ _ rfl) hr tk (gan_cons (ge_var 0) (gan_cons (ge_var 1) gan_nil))))
    gs_nil) gs_nil)
    (gs_cons (gs_if (GW.pt (gw_or (gt_not (gt_tru (ge_isi .tuple (ge_var 0) fc.f_isinstance fc.f_tuple))) (gw_or1 (gt_cmp (og_ne hu) (ge_len (ge_var 0) fc.f_len) (ge_var 1))))) (gs_cons (gs_ret ge_bl)
    gs_nil) gs_nil)
    (gs_cons (gs_ret (ge_b1 (c1_all rfl) (ge_lc fin_frozen [("part", 3)] rfl nd (gi_seq (ge_var 0)) (fun _ _ _ _ _ => (gc_name 3 nd)) (fun _ _ _ _ _ => gts_nil) (fun _ _ _ _ _ => (ge_fn (F 4 _ _ rfl) hr GH.takes0 (gan_cons (ge_var 3) (gan_cons (ge_var 1) (gan_cons (ge_bin og_sub (ge_var 2) ge_int) gan_nil)))))) fc.f_all))
    gs_nil)))
theorem k_is_row {fd : FuncData} (F : AllK P w K mg base sig k Γ) (hwW : w = TheWorld.w) (fc : Fc K mg) (U : FnP K "is_row" 12 fd) : FnOk P w K mg base (L2.CX P w) (k + 1) (He.ga K "is_row") fd ["value", "count", "levels"] (spG K (d_is_row Γ) 3) :=
  fn_G (k := k) U s_is_row (fun args h _ => .inl rfl) fun cdv A outer s H E hr hp tk => w_is_row F hwW fc hr hp tk
theorem s_is_kind : FnScope ["value", "label"] ["value"] (defScope (top 13)) := ⟨rfl, rfl, rfl, by decide +kernel, rfl, by decide +kernel, by decide +kernel⟩
theorem w_is_kind (F : AllK P w K mg base sig k Γ) (hwW : w = TheWorld.w) (fc : Fc K mg) {fa : Addr} {cdv : Value} {A : Around} {outer : List PySem.Env} {s : Shared} {H : Hp} {E : XK} (hr : Room k (A.deeper (envOfC "is_kind" (defScope (top 13)) s.heap.objs.size fa cdv)))
    (hp : PassesOwn (model P w) (A.deeper (envOfC "is_kind" (defScope (top 13)) s.heap.objs.size fa cdv)) (envOfC "is_kind" (defScope (top 13)) s.heap.objs.size fa cdv) (cxOf (L2.CX P w) P w K mg base ["value", "label"] "is_kind" (defScope (top 13)) fa cdv A outer s H E).xe)
    (tk : Takes (cxOf (L2.CX P w) P w K mg base ["value", "label"] "is_kind" (defScope (top 13)) fa cdv A outer s H E) (WD E)) :
    GSs (cxOf (L2.CX P w) P w K mg base ["value", "label"] "is_kind" (defScope (top 13)) fa cdv A outer s H E) (WD E) (defBody (top 13)) (b_is_kind Γ) := by
  have nd : (["value", "label"] : List Str).Nodup := s_is_kind.nd
  have hu : (cxOf (L2.CX P w) P w K mg base ["value", "label"] "is_kind" (defScope (top 13)) fa cdv A outer s H E).A.units + 200 < cLine := by
    have := hr.un
    show (A.deeper (envOfC "is_kind" (defScope (top 13)) s.heap.objs.size fa cdv)).units + 200 < cLine
    omega
  have hu1 : (cxOf (L2.CX P w) P w K mg base ["value", "label"] "is_kind" (defScope (top 13)) fa cdv A outer s H E).A.units + 1 < cLine := by omega
  exact (gs_cons (gs_if (GW.pt (gw_or (gt_not (gt_tru (ge_isi .tuple (ge_var 0) fc.f_isinstance fc.f_tuple))) (gw_or (gt_cmp (og_ne hu) (ge_len (ge_var 0) fc.f_len) ge_int) (gw_or1 (gt_not (gt_tru (ge_fn (F 3 _ _ rfl) hr tk (gan_cons (ge_ix hu1 (ge_var 0) ge_int) (gan_cons ge_int gan_nil))))))))) (gs_cons (gs_ret ge_bl)
    gs_nil) gs_nil)
    (gs_cons (gs_if (GW.pt (gw_or (gt_not (gt_tru (ge_isi .tuple (ge_ix hu1 (ge_var 0) ge_int) fc.f_isinstance fc.f_tuple))) (gw_or1 (gt_not (gt_tru (ge_b1 (c1_all rfl) (ge_lc fin_frozen [("label", 1)] rfl nd (gi_seq (ge_ix hu1 (ge_var 0) ge_int)) (fun _ _ _ _ _ => (gc_name 1 nd)) (fun _ _ _ _ _ => gts_nil) (fun _ _ _ _ _ => (ge_isi .str (ge_var 1) fc.f_isinstance fc.f_str))) fc.f_all)))))) (gs_cons (gs_ret ge_bl)
    gs_nil) gs_nil)
    (gs_cons (gs_try [([83, 97, 121, 69, 114, 114, 111, 114], false), ([73, 110, 118, 97, 108, 105, 100, 75, 105, 110, 100], true)] rfl rfl ⟨rfl, by decide +kernel, .inl fc.e_InvalidKind.2.2.2.2⟩ tk fc.m_InvalidKind (fun _ _ _ tk hp => (gs_cons (gs_expr (ge_fn (F 0 _ _ rfl) hr tk (gan_cons (ge_var 0) gan_nil)))
    gs_nil)) (fun _ _ => (gs_cons (gs_ret ge_bl)
    gs_nil)))
    (gs_cons (gs_ret ge_bl)
    gs_nil))))
theorem k_is_kind {fd : FuncData} (F : AllK P w K mg base sig k Γ) (hwW : w = TheWorld.w) (fc : Fc K mg) (U : FnP K "is_kind" 13 fd) : FnOk P w K mg base (L2.CX P w) (k + 1) (He.ga K "is_kind") fd ["value"] (spG K (d_is_kind Γ) 1) :=
  fn_G (k := k) U s_is_kind (fun args h _ => .inl rfl) fun cdv A outer s H E hr hp tk => w_is_kind F hwW fc hr hp tk
theorem s_is_machine : FnScope ["value", "kind", "tracks", "table", "good", "row", "one"] ["value"] (defScope (top 14)) := ⟨rfl, rfl, rfl, by decide +kernel, rfl, by decide +kernel, by decide +kernel⟩
theorem w_is_machine (F : AllK P w K mg base sig k Γ) (hwW : w = TheWorld.w) (fc : Fc K mg) {fa : Addr} {cdv : Value} {A : Around} {outer : List PySem.Env} {s : Shared} {H : Hp} {E : XK} (hr : Room k (A.deeper (envOfC "is_machine" (defScope (top 14)) s.heap.objs.size fa cdv)))
    (hp : PassesOwn (model P w) (A.deeper (envOfC "is_machine" (defScope (top 14)) s.heap.objs.size fa cdv)) (envOfC "is_machine" (defScope (top 14)) s.heap.objs.size fa cdv) (cxOf (L2.CX P w) P w K mg base ["value", "kind", "tracks", "table", "good", "row", "one"] "is_machine" (defScope (top 14)) fa cdv A outer s H E).xe)
    (tk : Takes (cxOf (L2.CX P w) P w K mg base ["value", "kind", "tracks", "table", "good", "row", "one"] "is_machine" (defScope (top 14)) fa cdv A outer s H E) (WD E)) :
    GSs (cxOf (L2.CX P w) P w K mg base ["value", "kind", "tracks", "table", "good", "row", "one"] "is_machine" (defScope (top 14)) fa cdv A outer s H E) (WD E) (defBody (top 14)) (b_is_machine Γ) := by
  have nd : (["value", "kind", "tracks", "table", "good", "row", "one"] : List Str).Nodup := s_is_machine.nd
  have hu : (cxOf (L2.CX P w) P w K mg base ["value", "kind", "tracks", "table", "good", "row", "one"] "is_machine" (defScope (top 14)) fa cdv A outer s H E).A.units + 200 < cLine := by
    have := hr.un
    show (A.deeper (envOfC "is_machine" (defScope (top 14)) s.heap.objs.size fa cdv)).units + 200 < cLine
    omega
  have hu1 : (cxOf (L2.CX P w) P w K mg base ["value", "kind", "tracks", "table", "good", "row", "one"] "is_machine" (defScope (top 14)) fa cdv A outer s H E).A.units + 1 < cLine := by omega
  exact (gs_cons (gs_asg (ge_var 0) (gg_tup rfl (ggs_cons (gg_name 1 nd) (ggs_cons (gg_name 2 nd) (ggs_cons (gg_name 3 nd) (ggs_cons (gg_name 4 nd) ggs_nil))))))
    (gs_cons (gs_if (GW.pt (gw_or (gt_not (gt_tru (ge_fn (F 5 _ _ rfl) hr tk (gan_cons (ge_var 1) gan_nil)))) (gw_or1 (gt_not (gt_tru (ge_fn (F 3 _ _ rfl) hr tk (gan_cons (ge_var 2) (gan_cons (ge_bin og_add (ge_topi fc.c_MOST_TRACKS) ge_int) gan_nil)))))))) (gs_cons (gs_ret ge_bl)
    gs_nil) gs_nil)
    (gs_cons (gs_if (GW.pt (gw_or (gt_not (gt_tru (ge_isi .tuple (ge_var 3) fc.f_isinstance fc.f_tuple))) (gw_or1 (gt_not (gt_tru (ge_isi .tuple (ge_var 4) fc.f_isinstance fc.f_tuple)))))) (gs_cons (gs_ret ge_bl)
    gs_nil) gs_nil)
    (gs_cons (gs_if (GW.pt (gw_or (gt_not (gt_chain og_le og_le ge_int (ge_len (ge_var 4) fc.f_len) (ge_topi fc.c_MOST_STATES))) (gw_or1 (gt_not (gt_tru (ge_b1 (c1_all rfl) (ge_lc fin_frozen [("one", 6)] rfl nd (gi_seq (ge_var 4)) (fun _ _ _ _ _ => (gc_name 6 nd)) (fun _ _ _ _ _ => gts_nil) (fun _ _ _ _ _ => (ge_isi .bool (ge_var 6) fc.f_isinstance fc.f_bool))) fc.f_all)))))) (gs_cons (gs_ret ge_bl)
    gs_nil) gs_nil)
    (gs_cons (gs_if (gt_cmp (og_ne hu) (ge_len (ge_var 3) fc.f_len) (ge_bin og_mul (ge_len (ge_ix hu1 (ge_var 1) ge_int) fc.f_len) (ge_len (ge_fn (F 1 _ _ rfl) hr tk (gan_cons (ge_var 2) gan_nil)) fc.f_len))) (gs_cons (gs_ret ge_bl)
    gs_nil) gs_nil)
    (gs_cons (gs_ret (ge_b1 (c1_all rfl) (ge_lc fin_frozen [("row", 5)] rfl nd (gi_seq (ge_var 3)) (fun _ _ _ _ _ => (gc_name 5 nd)) (fun _ _ _ _ _ => gts_nil) (fun _ _ _ _ _ => (ge_fn (F 4 _ _ rfl) hr GH.takes0 (gan_cons (ge_var 5) (gan_cons (ge_len (ge_var 4) fc.f_len) (gan_cons (ge_ix hu1 (ge_var 1) ge_int) gan_nil)))))) fc.f_all))
    gs_nil))))))
theorem k_is_machine {fd : FuncData} (F : AllK P w K mg base sig k Γ) (hwW : w = TheWorld.w) (fc : Fc K mg) (U : FnP K "is_machine" 14 fd) : FnOk P w K mg base (L2.CX P w) (k + 1) (He.ga K "is_machine") fd ["value"] (spG K (d_is_machine Γ) 1) :=
  fn_G (k := k) U s_is_machine (fun args h _ => .inl rfl) fun cdv A outer s H E hr hp tk => w_is_machine F hwW fc hr hp tk
theorem s_state_above : FnScope ["machine", "row", "children", "entry", "child"] ["machine", "row", "children"] (defScope (top 15)) := ⟨rfl, rfl, rfl, by decide +kernel, rfl, by decide +kernel, by decide +kernel⟩
theorem w_state_above (F : AllK P w K mg base sig k Γ) (hwW : w = TheWorld.w) (fc : Fc K mg) {fa : Addr} {cdv : Value} {A : Around} {outer : List PySem.Env} {s : Shared} {H : Hp} {E : XK} (hr : Room k (A.deeper (envOfC "state_above" (defScope (top 15)) s.heap.objs.size fa cdv)))
    (hp : PassesOwn (model P w) (A.deeper (envOfC "state_above" (defScope (top 15)) s.heap.objs.size fa cdv)) (envOfC "state_above" (defScope (top 15)) s.heap.objs.size fa cdv) (cxOf (L2.CX P w) P w K mg base ["machine", "row", "children", "entry", "child"] "state_above" (defScope (top 15)) fa cdv A outer s H E).xe)
    (tk : Takes (cxOf (L2.CX P w) P w K mg base ["machine", "row", "children", "entry", "child"] "state_above" (defScope (top 15)) fa cdv A outer s H E) (WD E)) :
    GSs (cxOf (L2.CX P w) P w K mg base ["machine", "row", "children", "entry", "child"] "state_above" (defScope (top 15)) fa cdv A outer s H E) (WD E) (defBody (top 15)) (b_state_above Γ) := by
  have nd : (["machine", "row", "children", "entry", "child"] : List Str).Nodup := s_state_above.nd
  have hu : (cxOf (L2.CX P w) P w K mg base ["machine", "row", "children", "entry", "child"] "state_above" (defScope (top 15)) fa cdv A outer s H E).A.units + 200 < cLine := by
    have := hr.un
    show (A.deeper (envOfC "state_above" (defScope (top 15)) s.heap.objs.size fa cdv)).units + 200 < cLine
    omega
  have hu1 : (cxOf (L2.CX P w) P w K mg base ["machine", "row", "children", "entry", "child"] "state_above" (defScope (top 15)) fa cdv A outer s H E).A.units + 1 < cLine := by omega
  exact (gs_cons (gs_set 3 (ge_ix hu1 (ge_ix hu1 (ge_var 0) ge_int) (ge_var 1)) nd)
    (gs_cons (gs_for hp rfl (gi_seq (ge_var 2)) (gg_name 4 nd) (gs_cons (gs_set 3 (ge_ix hu1 (ge_var 3) (ge_var 4)) nd)
    gs_nil))
    (gs_cons (gs_ret (ge_var 3))
    gs_nil)))
theorem k_state_above {fd : FuncData} (F : AllK P w K mg base sig k Γ) (hwW : w = TheWorld.w) (fc : Fc K mg) (U : FnP K "state_above" 15 fd) : FnOk P w K mg base (L2.CX P w) (k + 1) (He.ga K "state_above") fd ["machine", "row", "children"] (spG K (d_state_above Γ) 3) :=
  fn_G (k := k) U s_state_above (fun args h _ => .inl rfl) fun cdv A outer s H E hr hp tk => w_state_above F hwW fc hr hp tk
theorem s_state_of : FnScope ["machine", "marked", "numbers", "done", "waiting", "current", "left", "ways", "children", "child"] ["machine", "marked"] (defScope (top 16)) := ⟨rfl, rfl, rfl, by decide +kernel, rfl, by decide +kernel, by decide +kernel⟩
theorem w_state_of (F : AllK P w K mg base sig k Γ) (hwW : w = TheWorld.w) (fc : Fc K mg) {fa : Addr} {cdv : Value} {A : Around} {outer : List PySem.Env} {s : Shared} {H : Hp} {E : XK} (hr : Room k (A.deeper (envOfC "state_of" (defScope (top 16)) s.heap.objs.size fa cdv)))
    (hp : PassesOwn (model P w) (A.deeper (envOfC "state_of" (defScope (top 16)) s.heap.objs.size fa cdv)) (envOfC "state_of" (defScope (top 16)) s.heap.objs.size fa cdv) (cxOf (L2.CX P w) P w K mg base ["machine", "marked", "numbers", "done", "waiting", "current", "left", "ways", "children", "child"] "state_of" (defScope (top 16)) fa cdv A outer s H E).xe)
    (tk : Takes (cxOf (L2.CX P w) P w K mg base ["machine", "marked", "numbers", "done", "waiting", "current", "left", "ways", "children", "child"] "state_of" (defScope (top 16)) fa cdv A outer s H E) (WD E)) :
    GSs (cxOf (L2.CX P w) P w K mg base ["machine", "marked", "numbers", "done", "waiting", "current", "left", "ways", "children", "child"] "state_of" (defScope (top 16)) fa cdv A outer s H E) (WD E) (defBody (top 16)) (b_state_of Γ) := by
  have nd : (["machine", "marked", "numbers", "done", "waiting", "current", "left", "ways", "children", "child"] : List Str).Nodup := s_state_of.nd
  have hu : (cxOf (L2.CX P w) P w K mg base ["machine", "marked", "numbers", "done", "waiting", "current", "left", "ways", "children", "child"] "state_of" (defScope (top 16)) fa cdv A outer s H E).A.units + 200 < cLine := by
    have := hr.un
    show (A.deeper (envOfC "state_of" (defScope (top 16)) s.heap.objs.size fa cdv)).units + 200 < cLine
    omega
  have hu1 : (cxOf (L2.CX P w) P w K mg base ["machine", "marked", "numbers", "done", "waiting", "current", "left", "ways", "children", "child"] "state_of" (defScope (top 16)) fa cdv A outer s H E).A.units + 1 < cLine := by omega
  exact (gs_cons (gs_set 2 (ge_fn (F 12 _ _ rfl) hr tk (gan_cons (ge_ix hu1 (ge_var 0) ge_int) (gan_cons (ge_ix hu1 (ge_var 0) ge_int) gan_nil))) nd)
    (gs_cons (gs_set 3 (ge_lstM ga_nil) nd)
    (gs_cons (gs_set 4 (ge_lstM (ga_cons (ge_tup (ga_cons (ge_var 1) (ga_cons ge_bl ga_nil))) ga_nil)) nd)
    (gs_cons (gs_while hp (gt_tru (ge_var 4)) (gs_cons (gs_asg (ge_pop (ge_var 4)) (gg_tup rfl (ggs_cons (gg_name 5 nd) (ggs_cons (gg_name 6 nd) ggs_nil))))
    (gs_cons (gs_if (gt_not (gt_tru (ge_var 5))) (gs_cons (gs_expr (ge_append (ge_var 3) ge_int))
    gs_nil) (gs_cons (gs_if (gt_tru (ge_var 6)) (gs_cons (gs_set 7 (ge_bin og_sub (ge_len (ge_var 5) fc.f_len) ge_int) nd)
    (gs_cons (gs_set 8 (ge_cut (ge_var 3) (go_some (ge_bin og_sub (ge_len (ge_var 3) fc.f_len) (ge_var 7))) go_none) nd)
    (gs_cons (gs_set 3 (ge_cutM (ge_var 3) go_none (go_some (ge_bin og_sub (ge_len (ge_var 3) fc.f_len) (ge_var 7)))) nd)
    (gs_cons (gs_expr (ge_append (ge_var 3) (ge_fn (F 7 _ _ rfl) hr tk (gan_cons (ge_var 0) (gan_cons (ge_ixN hu hwW (ge_var 2) (ge_ix hu1 (ge_var 5) ge_int)) (gan_cons (ge_var 8) gan_nil))))))
    gs_nil)))) (gs_cons (gs_expr (ge_append (ge_var 4) (ge_tup (ga_cons (ge_var 5) (ga_cons ge_bl ga_nil)))))
    (gs_cons (gs_for hp rfl (gi_seq (ge_back (ge_var 5))) (gg_name 9 nd) (gs_cons (gs_expr (ge_append (ge_var 4) (ge_tup (ga_cons (ge_var 9) (ga_cons ge_bl ga_nil)))))
    gs_nil))
    gs_nil)))
    gs_nil))
    gs_nil)))
    (gs_cons (gs_ret (ge_ix hu1 (ge_var 3) ge_int))
    gs_nil)))))
theorem k_state_of {fd : FuncData} (F : AllK P w K mg base sig k Γ) (hwW : w = TheWorld.w) (fc : Fc K mg) (U : FnP K "state_of" 16 fd) : FnOk P w K mg base (L2.CX P w) (k + 1) (He.ga K "state_of") fd ["machine", "marked"] (spG K (d_state_of Γ) 2) :=
  fn_G (k := k) U s_state_of (fun args h _ => .inr rfl) fun cdv A outer s H E hr hp tk => w_state_of F hwW fc hr hp tk
theorem s_accepts : FnScope ["machine", "marked"] ["machine", "marked"] (defScope (top 17)) := ⟨rfl, rfl, rfl, by decide +kernel, rfl, by decide +kernel, by decide +kernel⟩
theorem w_accepts (F : AllK P w K mg base sig k Γ) (hwW : w = TheWorld.w) (fc : Fc K mg) {fa : Addr} {cdv : Value} {A : Around} {outer : List PySem.Env} {s : Shared} {H : Hp} {E : XK} (hr : Room k (A.deeper (envOfC "accepts" (defScope (top 17)) s.heap.objs.size fa cdv)))
    (hp : PassesOwn (model P w) (A.deeper (envOfC "accepts" (defScope (top 17)) s.heap.objs.size fa cdv)) (envOfC "accepts" (defScope (top 17)) s.heap.objs.size fa cdv) (cxOf (L2.CX P w) P w K mg base ["machine", "marked"] "accepts" (defScope (top 17)) fa cdv A outer s H E).xe)
    (tk : Takes (cxOf (L2.CX P w) P w K mg base ["machine", "marked"] "accepts" (defScope (top 17)) fa cdv A outer s H E) (WD E)) :
    GSs (cxOf (L2.CX P w) P w K mg base ["machine", "marked"] "accepts" (defScope (top 17)) fa cdv A outer s H E) (WD E) (defBody (top 17)) (b_accepts Γ) := by
  have nd : (["machine", "marked"] : List Str).Nodup := s_accepts.nd
  have hu : (cxOf (L2.CX P w) P w K mg base ["machine", "marked"] "accepts" (defScope (top 17)) fa cdv A outer s H E).A.units + 200 < cLine := by
    have := hr.un
    show (A.deeper (envOfC "accepts" (defScope (top 17)) s.heap.objs.size fa cdv)).units + 200 < cLine
    omega
  have hu1 : (cxOf (L2.CX P w) P w K mg base ["machine", "marked"] "accepts" (defScope (top 17)) fa cdv A outer s H E).A.units + 1 < cLine := by omega
  exact (gs_cons (gs_ret (ge_ix hu1 (ge_ix hu1 (ge_var 0) ge_int) (ge_fn (F 8 _ _ rfl) hr tk (gan_cons (ge_var 0) (gan_cons (ge_var 1) gan_nil)))))
    gs_nil)
theorem k_accepts {fd : FuncData} (F : AllK P w K mg base sig k Γ) (hwW : w = TheWorld.w) (fc : Fc K mg) (U : FnP K "accepts" 17 fd) : FnOk P w K mg base (L2.CX P w) (k + 1) (He.ga K "accepts") fd ["machine", "marked"] (spG K (d_accepts Γ) 2) :=
  fn_G (k := k) U s_accepts (fun args h _ => .inl rfl) fun cdv A outer s H E hr hp tk => w_accepts F hwW fc hr hp tk
theorem s_mark : FnScope ["shape", "sets", "inside", "one", "path"] ["shape", "sets"] (defScope (top 18)) := ⟨rfl, rfl, rfl, by decide +kernel, rfl, by decide +kernel, by decide +kernel⟩
theorem w_mark (F : AllK P w K mg base sig k Γ) (hwW : w = TheWorld.w) (fc : Fc K mg) {fa : Addr} {cdv : Value} {A : Around} {outer : List PySem.Env} {s : Shared} {H : Hp} {E : XK} (hr : Room k (A.deeper (envOfC "mark" (defScope (top 18)) s.heap.objs.size fa cdv)))
    (hp : PassesOwn (model P w) (A.deeper (envOfC "mark" (defScope (top 18)) s.heap.objs.size fa cdv)) (envOfC "mark" (defScope (top 18)) s.heap.objs.size fa cdv) (cxOf (L2.CX P w) P w K mg base ["shape", "sets", "inside", "one", "path"] "mark" (defScope (top 18)) fa cdv A outer s H E).xe)
    (tk : Takes (cxOf (L2.CX P w) P w K mg base ["shape", "sets", "inside", "one", "path"] "mark" (defScope (top 18)) fa cdv A outer s H E) (WD E)) :
    GSs (cxOf (L2.CX P w) P w K mg base ["shape", "sets", "inside", "one", "path"] "mark" (defScope (top 18)) fa cdv A outer s H E) (WD E) (defBody (top 18)) (b_mark Γ) := by
  have nd : (["shape", "sets", "inside", "one", "path"] : List Str).Nodup := s_mark.nd
  have hu : (cxOf (L2.CX P w) P w K mg base ["shape", "sets", "inside", "one", "path"] "mark" (defScope (top 18)) fa cdv A outer s H E).A.units + 200 < cLine := by
    have := hr.un
    show (A.deeper (envOfC "mark" (defScope (top 18)) s.heap.objs.size fa cdv)).units + 200 < cLine
    omega
  have hu1 : (cxOf (L2.CX P w) P w K mg base ["shape", "sets", "inside", "one", "path"] "mark" (defScope (top 18)) fa cdv A outer s H E).A.units + 1 < cLine := by omega
  exact (gs_cons (gs_setLc fin_frozen 2 [("one", 3)] rfl nd (gi_seq (ge_var 1)) (fun _ _ _ _ _ => (gc_name 3 nd)) (fun _ _ _ _ _ => gts_nil) (fun _ _ _ _ _ => (ge_dcN [("path", 4)] hu hwW rfl nd (gi_seq (ge_var 3)) (fun _ _ _ _ _ => (gc_name 4 nd)) (fun _ _ _ _ _ => gts_nil) (fun _ _ _ _ _ => (ge_var 4)) (fun _ _ _ _ _ => ge_bl))))
    (gs_cons (gs_ret (ge_fn (F 11 _ _ rfl) hr tk (gan_cons (ge_var 0) (gan_cons (ge_tup ga_nil) (gan_cons (ge_var 2) gan_nil)))))
    gs_nil))
theorem k_mark {fd : FuncData} (F : AllK P w K mg base sig k Γ) (hwW : w = TheWorld.w) (fc : Fc K mg) (U : FnP K "mark" 18 fd) : FnOk P w K mg base (L2.CX P w) (k + 1) (He.ga K "mark") fd ["shape", "sets"] (spG K (d_mark Γ) 2) :=
  fn_G (k := k) U s_mark (fun args h _ => .inr rfl) fun cdv A outer s H E hr hp tk => w_mark F hwW fc hr hp tk
theorem s_mark_part : FnScope ["shape", "path", "inside", "sign", "children", "way", "child", "one"] ["shape", "path", "inside"] (defScope (top 19)) := ⟨rfl, rfl, rfl, by decide +kernel, rfl, by decide +kernel, by decide +kernel⟩
theorem w_mark_part (F : AllK P w K mg base sig k Γ) (hwW : w = TheWorld.w) (fc : Fc K mg) {fa : Addr} {cdv : Value} {A : Around} {outer : List PySem.Env} {s : Shared} {H : Hp} {E : XK} (hr : Room k (A.deeper (envOfC "mark_part" (defScope (top 19)) s.heap.objs.size fa cdv)))
    (hp : PassesOwn (model P w) (A.deeper (envOfC "mark_part" (defScope (top 19)) s.heap.objs.size fa cdv)) (envOfC "mark_part" (defScope (top 19)) s.heap.objs.size fa cdv) (cxOf (L2.CX P w) P w K mg base ["shape", "path", "inside", "sign", "children", "way", "child", "one"] "mark_part" (defScope (top 19)) fa cdv A outer s H E).xe)
    (tk : Takes (cxOf (L2.CX P w) P w K mg base ["shape", "path", "inside", "sign", "children", "way", "child", "one"] "mark_part" (defScope (top 19)) fa cdv A outer s H E) (WD E)) :
    GSs (cxOf (L2.CX P w) P w K mg base ["shape", "path", "inside", "sign", "children", "way", "child", "one"] "mark_part" (defScope (top 19)) fa cdv A outer s H E) (WD E) (defBody (top 19)) (b_mark_part Γ) := by
  have nd : (["shape", "path", "inside", "sign", "children", "way", "child", "one"] : List Str).Nodup := s_mark_part.nd
  have hu : (cxOf (L2.CX P w) P w K mg base ["shape", "path", "inside", "sign", "children", "way", "child", "one"] "mark_part" (defScope (top 19)) fa cdv A outer s H E).A.units + 200 < cLine := by
    have := hr.un
    show (A.deeper (envOfC "mark_part" (defScope (top 19)) s.heap.objs.size fa cdv)).units + 200 < cLine
    omega
  have hu1 : (cxOf (L2.CX P w) P w K mg base ["shape", "path", "inside", "sign", "children", "way", "child", "one"] "mark_part" (defScope (top 19)) fa cdv A outer s H E).A.units + 1 < cLine := by omega
  exact (gs_cons (gs_if (gt_not (gt_tru (ge_var 0))) (gs_cons (gs_ret (ge_tup ga_nil))
    gs_nil) gs_nil)
    (gs_cons (gs_set 3 (ge_tup (ga_cons (ge_ix hu1 (ge_var 0) ge_int) (ga_cons (ge_t1 c1_tuple (ge_lc fin_frozen [("one", 7)] rfl nd (gi_seq (ge_var 2)) (fun _ _ _ _ _ => (gc_name 7 nd)) (fun _ _ _ _ _ => gts_nil) (fun _ _ _ _ _ => (ge_if (gt_cmp (og_inN hu hwW) (ge_var 1) (ge_var 7)) ge_int ge_int))) fc.f_tuple) ga_nil))) nd)
    (gs_cons (gs_setLc fin_frozen 4 [("way", 5), ("child", 6)] rfl nd (gi_enum (ge_cut (ge_var 0) (go_some ge_int) go_none) fc.f_enumerate) (fun _ _ _ _ _ => (gc_tup rfl (gcs_cons (gc_name 5 nd) (gcs_cons (gc_name 6 nd) gcs_nil)))) (fun _ _ _ _ _ => gts_nil) (fun _ _ _ _ _ => (ge_fn (F 11 _ _ rfl) hr GH.takes0 (gan_cons (ge_var 6) (gan_cons (ge_bin og_add (ge_var 1) (ge_tup (ga_cons (ge_var 5) ga_nil))) (gan_cons (ge_var 2) gan_nil))))))
    (gs_cons (gs_ret (ge_bin og_add (ge_tup (ga_cons (ge_var 3) ga_nil)) (ge_t1 c1_tuple (ge_var 4) fc.f_tuple)))
    gs_nil))))
theorem k_mark_part {fd : FuncData} (F : AllK P w K mg base sig k Γ) (hwW : w = TheWorld.w) (fc : Fc K mg) (U : FnP K "mark_part" 19 fd) : FnOk P w K mg base (L2.CX P w) (k + 1) (He.ga K "mark_part") fd ["shape", "path", "inside"] (spG K (d_mark_part Γ) 3) :=
  fn_G (k := k) U s_mark_part (fun args h _ => .inl rfl) fun cdv A outer s H E hr hp tk => w_mark_part F hwW fc hr hp tk
theorem s_rows_by_sign : FnScope ["kind", "tracks", "row", "sign"] ["kind", "tracks"] (defScope (top 20)) := ⟨rfl, rfl, rfl, by decide +kernel, rfl, by decide +kernel, by decide +kernel⟩
theorem w_rows_by_sign (F : AllK P w K mg base sig k Γ) (hwW : w = TheWorld.w) (fc : Fc K mg) {fa : Addr} {cdv : Value} {A : Around} {outer : List PySem.Env} {s : Shared} {H : Hp} {E : XK} (hr : Room k (A.deeper (envOfC "rows_by_sign" (defScope (top 20)) s.heap.objs.size fa cdv)))
    (hp : PassesOwn (model P w) (A.deeper (envOfC "rows_by_sign" (defScope (top 20)) s.heap.objs.size fa cdv)) (envOfC "rows_by_sign" (defScope (top 20)) s.heap.objs.size fa cdv) (cxOf (L2.CX P w) P w K mg base ["kind", "tracks", "row", "sign"] "rows_by_sign" (defScope (top 20)) fa cdv A outer s H E).xe)
    (tk : Takes (cxOf (L2.CX P w) P w K mg base ["kind", "tracks", "row", "sign"] "rows_by_sign" (defScope (top 20)) fa cdv A outer s H E) (WD E)) :
    GSs (cxOf (L2.CX P w) P w K mg base ["kind", "tracks", "row", "sign"] "rows_by_sign" (defScope (top 20)) fa cdv A outer s H E) (WD E) (defBody (top 20)) (b_rows_by_sign Γ) := by
  have nd : (["kind", "tracks", "row", "sign"] : List Str).Nodup := s_rows_by_sign.nd
  have hu : (cxOf (L2.CX P w) P w K mg base ["kind", "tracks", "row", "sign"] "rows_by_sign" (defScope (top 20)) fa cdv A outer s H E).A.units + 200 < cLine := by
    have := hr.un
    show (A.deeper (envOfC "rows_by_sign" (defScope (top 20)) s.heap.objs.size fa cdv)).units + 200 < cLine
    omega
  have hu1 : (cxOf (L2.CX P w) P w K mg base ["kind", "tracks", "row", "sign"] "rows_by_sign" (defScope (top 20)) fa cdv A outer s H E).A.units + 1 < cLine := by omega
  exact (gs_cons (gs_ret (ge_dcN [("row", 2), ("sign", 3)] hu hwW rfl nd (gi_enum (ge_fn (F 2 _ _ rfl) hr tk (gan_cons (ge_var 0) (gan_cons (ge_var 1) gan_nil))) fc.f_enumerate) (fun _ _ _ _ _ => (gc_tup rfl (gcs_cons (gc_name 2 nd) (gcs_cons (gc_name 3 nd) gcs_nil)))) (fun _ _ _ _ _ => gts_nil) (fun _ _ _ _ _ => (ge_var 3)) (fun _ _ _ _ _ => (ge_var 2))))
    gs_nil)
theorem k_rows_by_sign {fd : FuncData} (F : AllK P w K mg base sig k Γ) (hwW : w = TheWorld.w) (fc : Fc K mg) (U : FnP K "rows_by_sign" 20 fd) : FnOk P w K mg base (L2.CX P w) (k + 1) (He.ga K "rows_by_sign") fd ["kind", "tracks"] (spG K (d_rows_by_sign Γ) 2) :=
  fn_G (k := k) U s_rows_by_sign (fun args h _ => .inl rfl) fun cdv A outer s H E hr hp tk => w_rows_by_sign F hwW fc hr hp tk
theorem s__law_tape : FnScope ["script", "cells", "seed", "cell"] ["script"] (defScope (top 22)) := ⟨rfl, rfl, rfl, by decide +kernel, rfl, by decide +kernel, by decide +kernel⟩
theorem w__law_tape (F : AllK P w K mg base sig k Γ) (hwW : w = TheWorld.w) (fc : Fc K mg) {fa : Addr} {cdv : Value} {A : Around} {outer : List PySem.Env} {s : Shared} {H : Hp} {E : XK} (hr : Room k (A.deeper (envOfC "_law_tape" (defScope (top 22)) s.heap.objs.size fa cdv)))
    (hp : PassesOwn (model P w) (A.deeper (envOfC "_law_tape" (defScope (top 22)) s.heap.objs.size fa cdv)) (envOfC "_law_tape" (defScope (top 22)) s.heap.objs.size fa cdv) (cxOf (L2.CX P w) P w K mg base ["script", "cells", "seed", "cell"] "_law_tape" (defScope (top 22)) fa cdv A outer s H E).xe)
    (tk : Takes (cxOf (L2.CX P w) P w K mg base ["script", "cells", "seed", "cell"] "_law_tape" (defScope (top 22)) fa cdv A outer s H E) (WD E)) :
    GSs (cxOf (L2.CX P w) P w K mg base ["script", "cells", "seed", "cell"] "_law_tape" (defScope (top 22)) fa cdv A outer s H E) (WD E) (defBody (top 22)) (b__law_tape Γ) := by
  have nd : (["script", "cells", "seed", "cell"] : List Str).Nodup := s__law_tape.nd
  have hu : (cxOf (L2.CX P w) P w K mg base ["script", "cells", "seed", "cell"] "_law_tape" (defScope (top 22)) fa cdv A outer s H E).A.units + 200 < cLine := by
    have := hr.un
    show (A.deeper (envOfC "_law_tape" (defScope (top 22)) s.heap.objs.size fa cdv)).units + 200 < cLine
    omega
  have hu1 : (cxOf (L2.CX P w) P w K mg base ["script", "cells", "seed", "cell"] "_law_tape" (defScope (top 22)) fa cdv A outer s H E).A.units + 1 < cLine := by omega
  exact (gs_cons (gs_setLc fin_frozen 1 [("cell", 3)] rfl nd (gi_seq (ge_var 0)) (fun _ _ _ _ _ => (gc_name 3 nd)) (fun _ _ _ _ _ => gts_nil) (fun _ _ _ _ _ => (ge_b1 c1_abs (ge_t1 c1_int (ge_var 3) fc.f_int) fc.f_abs)))
    (gs_cons (gs_set 2 ge_int nd)
    (gs_cons (gs_for hp rfl (gi_seq (ge_var 1)) (gg_name 3 nd) (gs_cons (gs_set 2 (ge_bin og_mod (ge_t1 c1_int (ge_bin og_add (ge_bin og_mul (ge_var 2) ge_int) (ge_var 3)) fc.f_int) ge_int) nd)
    gs_nil))
    (gs_cons (gs_ret (ge_disp (gps_cons (ge_str [99, 101, 108, 108, 115]) (ge_var 1) (gps_cons (ge_str [97, 116]) ge_int (gps_cons (ge_str [108, 101, 102, 116]) ge_int (gps_cons (ge_str [115, 101, 101, 100]) (ge_var 2) (gps_cons (ge_str [115, 97, 108, 116]) ge_int gps_nil)))))))
    gs_nil))))
theorem k__law_tape {fd : FuncData} (F : AllK P w K mg base sig k Γ) (hwW : w = TheWorld.w) (fc : Fc K mg) (U : FnP K "_law_tape" 22 fd) : FnOk P w K mg base (L2.CX P w) (k + 1) (He.ga K "_law_tape") fd ["script"] (spG K (d__law_tape Γ) 1) :=
  fn_G (k := k) U s__law_tape (fun args h _ => .inl rfl) fun cdv A outer s H E hr hp tk => w__law_tape F hwW fc hr hp tk
theorem s__law_take : FnScope ["tape", "many", "mixed", "drawn"] ["tape", "many"] (defScope (top 23)) := ⟨rfl, rfl, rfl, by decide +kernel, rfl, by decide +kernel, by decide +kernel⟩
theorem w__law_take (F : AllK P w K mg base sig k Γ) (hwW : w = TheWorld.w) (fc : Fc K mg) {fa : Addr} {cdv : Value} {A : Around} {outer : List PySem.Env} {s : Shared} {H : Hp} {E : XK} (hr : Room k (A.deeper (envOfC "_law_take" (defScope (top 23)) s.heap.objs.size fa cdv)))
    (hp : PassesOwn (model P w) (A.deeper (envOfC "_law_take" (defScope (top 23)) s.heap.objs.size fa cdv)) (envOfC "_law_take" (defScope (top 23)) s.heap.objs.size fa cdv) (cxOf (L2.CX P w) P w K mg base ["tape", "many", "mixed", "drawn"] "_law_take" (defScope (top 23)) fa cdv A outer s H E).xe)
    (tk : Takes (cxOf (L2.CX P w) P w K mg base ["tape", "many", "mixed", "drawn"] "_law_take" (defScope (top 23)) fa cdv A outer s H E) (WD E)) :
    GSs (cxOf (L2.CX P w) P w K mg base ["tape", "many", "mixed", "drawn"] "_law_take" (defScope (top 23)) fa cdv A outer s H E) (WD E) (defBody (top 23)) (b__law_take Γ) := by
  have nd : (["tape", "many", "mixed", "drawn"] : List Str).Nodup := s__law_take.nd
  have hu : (cxOf (L2.CX P w) P w K mg base ["tape", "many", "mixed", "drawn"] "_law_take" (defScope (top 23)) fa cdv A outer s H E).A.units + 200 < cLine := by
    have := hr.un
    show (A.deeper (envOfC "_law_take" (defScope (top 23)) s.heap.objs.size fa cdv)).units + 200 < cLine
    omega
  have hu1 : (cxOf (L2.CX P w) P w K mg base ["tape", "many", "mixed", "drawn"] "_law_take" (defScope (top 23)) fa cdv A outer s H E).A.units + 1 < cLine := by omega
  exact (gs_cons (gs_if (GW.pt (gw_and (gt_cmp (og_eq hu) (ge_ix hu1 (ge_var 0) (ge_str [108, 101, 102, 116])) ge_int) (gw_and1 (gt_cmp og_lt (ge_ix hu1 (ge_var 0) (ge_str [97, 116])) (ge_len (ge_ix hu1 (ge_var 0) (ge_str [99, 101, 108, 108, 115])) fc.f_len))))) (gs_cons (gs_asg (ge_ix hu1 (ge_ix hu1 (ge_var 0) (ge_str [99, 101, 108, 108, 115])) (ge_ix hu1 (ge_var 0) (ge_str [97, 116]))) (gg_sub hu1 (ge_var 0) (ge_str [108, 101, 102, 116])))
    (gs_cons (gs_asg (ge_bin og_add (ge_ix hu1 (ge_var 0) (ge_str [97, 116])) ge_int) (gg_sub hu1 (ge_var 0) (ge_str [97, 116])))
    gs_nil)) gs_nil)
    (gs_cons (gs_if (gt_cmp og_gt (ge_ix hu1 (ge_var 0) (ge_str [108, 101, 102, 116])) ge_int) (gs_cons (gs_set 3 (ge_bin og_mod (ge_t1 c1_int (ge_ix hu1 (ge_var 0) (ge_str [108, 101, 102, 116])) fc.f_int) (ge_var 1)) nd)
    (gs_cons (gs_asg (ge_bin og_div (ge_ix hu1 (ge_var 0) (ge_str [108, 101, 102, 116])) (ge_var 1)) (gg_sub hu1 (ge_var 0) (ge_str [108, 101, 102, 116])))
    (gs_cons (gs_ret (ge_var 3))
    gs_nil))) gs_nil)
    (gs_cons (gs_asg (ge_bin og_add (ge_ix hu1 (ge_var 0) (ge_str [115, 97, 108, 116])) ge_int) (gg_sub hu1 (ge_var 0) (ge_str [115, 97, 108, 116])))
    (gs_cons (gs_set 2 (ge_bin og_mod (ge_t1 c1_int (ge_bin og_add (ge_bin og_mul (ge_ix hu1 (ge_var 0) (ge_str [115, 101, 101, 100])) ge_int) (ge_bin og_mul (ge_ix hu1 (ge_var 0) (ge_str [115, 97, 108, 116])) ge_int)) fc.f_int) ge_int) nd)
    (gs_cons (gs_set 2 (ge_bin og_mod (ge_t1 c1_int (ge_bin og_add (ge_bin og_add (ge_bin og_mul (ge_var 2) (ge_var 2)) (ge_bin og_mul (ge_ix hu1 (ge_var 0) (ge_str [115, 97, 108, 116])) ge_int)) ge_int) fc.f_int) ge_int) nd)
    (gs_cons (gs_ret (ge_bin og_mod (ge_t1 c1_int (ge_var 2) fc.f_int) (ge_var 1)))
    gs_nil))))))
theorem k__law_take {fd : FuncData} (F : AllK P w K mg base sig k Γ) (hwW : w = TheWorld.w) (fc : Fc K mg) (U : FnP K "_law_take" 23 fd) : FnOk P w K mg base (L2.CX P w) (k + 1) (He.ga K "_law_take") fd ["tape", "many"] (spG K (d__law_take Γ) 2) :=
  fn_G (k := k) U s__law_take (fun args h _ => .inl rfl) fun cdv A outer s H E hr hp tk => w__law_take F hwW fc hr hp tk
theorem s__law_is_integer : FnScope ["actual"] ["actual"] (defScope (top 24)) := ⟨rfl, rfl, rfl, by decide +kernel, rfl, by decide +kernel, by decide +kernel⟩
theorem w__law_is_integer (F : AllK P w K mg base sig k Γ) (hwW : w = TheWorld.w) (fc : Fc K mg) {fa : Addr} {cdv : Value} {A : Around} {outer : List PySem.Env} {s : Shared} {H : Hp} {E : XK} (hr : Room k (A.deeper (envOfC "_law_is_integer" (defScope (top 24)) s.heap.objs.size fa cdv)))
    (hp : PassesOwn (model P w) (A.deeper (envOfC "_law_is_integer" (defScope (top 24)) s.heap.objs.size fa cdv)) (envOfC "_law_is_integer" (defScope (top 24)) s.heap.objs.size fa cdv) (cxOf (L2.CX P w) P w K mg base ["actual"] "_law_is_integer" (defScope (top 24)) fa cdv A outer s H E).xe)
    (tk : Takes (cxOf (L2.CX P w) P w K mg base ["actual"] "_law_is_integer" (defScope (top 24)) fa cdv A outer s H E) (WD E)) :
    GSs (cxOf (L2.CX P w) P w K mg base ["actual"] "_law_is_integer" (defScope (top 24)) fa cdv A outer s H E) (WD E) (defBody (top 24)) (b__law_is_integer Γ) := by
  have nd : (["actual"] : List Str).Nodup := s__law_is_integer.nd
  have hu : (cxOf (L2.CX P w) P w K mg base ["actual"] "_law_is_integer" (defScope (top 24)) fa cdv A outer s H E).A.units + 200 < cLine := by
    have := hr.un
    show (A.deeper (envOfC "_law_is_integer" (defScope (top 24)) s.heap.objs.size fa cdv)).units + 200 < cLine
    omega
  have hu1 : (cxOf (L2.CX P w) P w K mg base ["actual"] "_law_is_integer" (defScope (top 24)) fa cdv A outer s H E).A.units + 1 < cLine := by omega
  exact (gs_cons (gs_ret (ge_and (ge_isi .int (ge_var 0) fc.f_isinstance fc.f_int) (ge_one (ge_not (ge_isi .bool (ge_var 0) fc.f_isinstance fc.f_bool)))))
    gs_nil)
theorem k__law_is_integer {fd : FuncData} (F : AllK P w K mg base sig k Γ) (hwW : w = TheWorld.w) (fc : Fc K mg) (U : FnP K "_law_is_integer" 24 fd) : FnOk P w K mg base (L2.CX P w) (k + 1) (He.ga K "_law_is_integer") fd ["actual"] (spG K (d__law_is_integer Γ) 1) :=
  fn_G (k := k) U s__law_is_integer (fun args h _ => .inl rfl) fun cdv A outer s H E hr hp tk => w__law_is_integer F hwW fc hr hp tk
theorem s__law_same_items : FnScope ["actual", "expected", "k"] ["actual", "expected"] (defScope (top 25)) := ⟨rfl, rfl, rfl, by decide +kernel, rfl, by decide +kernel, by decide +kernel⟩
theorem w__law_same_items (F : AllK P w K mg base sig k Γ) (hwW : w = TheWorld.w) (fc : Fc K mg) {fa : Addr} {cdv : Value} {A : Around} {outer : List PySem.Env} {s : Shared} {H : Hp} {E : XK} (hr : Room k (A.deeper (envOfC "_law_same_items" (defScope (top 25)) s.heap.objs.size fa cdv)))
    (hp : PassesOwn (model P w) (A.deeper (envOfC "_law_same_items" (defScope (top 25)) s.heap.objs.size fa cdv)) (envOfC "_law_same_items" (defScope (top 25)) s.heap.objs.size fa cdv) (cxOf (L2.CX P w) P w K mg base ["actual", "expected", "k"] "_law_same_items" (defScope (top 25)) fa cdv A outer s H E).xe)
    (tk : Takes (cxOf (L2.CX P w) P w K mg base ["actual", "expected", "k"] "_law_same_items" (defScope (top 25)) fa cdv A outer s H E) (WD E)) :
    GSs (cxOf (L2.CX P w) P w K mg base ["actual", "expected", "k"] "_law_same_items" (defScope (top 25)) fa cdv A outer s H E) (WD E) (defBody (top 25)) (b__law_same_items Γ) := by
  have nd : (["actual", "expected", "k"] : List Str).Nodup := s__law_same_items.nd
  have hu : (cxOf (L2.CX P w) P w K mg base ["actual", "expected", "k"] "_law_same_items" (defScope (top 25)) fa cdv A outer s H E).A.units + 200 < cLine := by
    have := hr.un
    show (A.deeper (envOfC "_law_same_items" (defScope (top 25)) s.heap.objs.size fa cdv)).units + 200 < cLine
    omega
  have hu1 : (cxOf (L2.CX P w) P w K mg base ["actual", "expected", "k"] "_law_same_items" (defScope (top 25)) fa cdv A outer s H E).A.units + 1 < cLine := by omega
  exact (gs_cons (gs_if (gt_cmp (og_ne hu) (ge_len (ge_var 0) fc.f_len) (ge_len (ge_var 1) fc.f_len)) (gs_cons (gs_ret ge_bl)
    gs_nil) gs_nil)
    (gs_cons (gs_for hp rfl (gi_range1 (ge_len (ge_var 1) fc.f_len) fc.f_range) (gg_name 2 nd) (gs_cons (gs_if (gt_not (gt_tru (ge_fn (F 17 _ _ rfl) hr tk (gan_cons (ge_ix hu1 (ge_var 0) (ge_var 2)) (gan_cons (ge_ix hu1 (ge_var 1) (ge_var 2)) gan_nil))))) (gs_cons (gs_ret ge_bl)
    gs_nil) gs_nil)
    gs_nil))
    (gs_cons (gs_ret ge_bl)
    gs_nil)))
theorem k__law_same_items {fd : FuncData} (F : AllK P w K mg base sig k Γ) (hwW : w = TheWorld.w) (fc : Fc K mg) (U : FnP K "_law_same_items" 25 fd) : FnOk P w K mg base (L2.CX P w) (k + 1) (He.ga K "_law_same_items") fd ["actual", "expected"] (spG K (d__law_same_items Γ) 2) :=
  fn_G (k := k) U s__law_same_items (fun args h _ => .inl rfl) fun cdv A outer s H E hr hp tk => w__law_same_items F hwW fc hr hp tk
theorem s__law_same : FnScope ["actual", "expected", "key"] ["actual", "expected"] (defScope (top 26)) := ⟨rfl, rfl, rfl, by decide +kernel, rfl, by decide +kernel, by decide +kernel⟩
theorem w__law_same (F : AllK P w K mg base sig k Γ) (hwW : w = TheWorld.w) (fc : Fc K mg) {fa : Addr} {cdv : Value} {A : Around} {outer : List PySem.Env} {s : Shared} {H : Hp} {E : XK} (hr : Room k (A.deeper (envOfC "_law_same" (defScope (top 26)) s.heap.objs.size fa cdv)))
    (hp : PassesOwn (model P w) (A.deeper (envOfC "_law_same" (defScope (top 26)) s.heap.objs.size fa cdv)) (envOfC "_law_same" (defScope (top 26)) s.heap.objs.size fa cdv) (cxOf (L2.CX P w) P w K mg base ["actual", "expected", "key"] "_law_same" (defScope (top 26)) fa cdv A outer s H E).xe)
    (tk : Takes (cxOf (L2.CX P w) P w K mg base ["actual", "expected", "key"] "_law_same" (defScope (top 26)) fa cdv A outer s H E) (WD E)) :
    GSs (cxOf (L2.CX P w) P w K mg base ["actual", "expected", "key"] "_law_same" (defScope (top 26)) fa cdv A outer s H E) (WD E) (defBody (top 26)) (b__law_same Γ) := by
  have nd : (["actual", "expected", "key"] : List Str).Nodup := s__law_same.nd
  have hu : (cxOf (L2.CX P w) P w K mg base ["actual", "expected", "key"] "_law_same" (defScope (top 26)) fa cdv A outer s H E).A.units + 200 < cLine := by
    have := hr.un
    show (A.deeper (envOfC "_law_same" (defScope (top 26)) s.heap.objs.size fa cdv)).units + 200 < cLine
    omega
  have hu1 : (cxOf (L2.CX P w) P w K mg base ["actual", "expected", "key"] "_law_same" (defScope (top 26)) fa cdv A outer s H E).A.units + 1 < cLine := by omega
  exact (gs_cons (gs_if (gt_cmp og_isN (ge_var 1) ge_non) (gs_cons (gs_ret (ge_cmp og_isN (ge_var 0) ge_non))
    gs_nil) gs_nil)
    (gs_cons (gs_if (gt_tru (ge_isi .bool (ge_var 1) fc.f_isinstance fc.f_bool)) (gs_cons (gs_ret (ge_and (ge_isi .bool (ge_var 0) fc.f_isinstance fc.f_bool) (ge_one (ge_cmp (og_eq hu) (ge_var 0) (ge_var 1)))))
    gs_nil) gs_nil)
    (gs_cons (gs_if (gt_tru (ge_isi .int (ge_var 1) fc.f_isinstance fc.f_int)) (gs_cons (gs_ret (ge_and (ge_fn (F 15 _ _ rfl) hr tk (gan_cons (ge_var 0) gan_nil)) (ge_one (ge_cmp (og_eq hu) (ge_var 0) (ge_var 1)))))
    gs_nil) gs_nil)
    (gs_cons (gs_if (gt_tru (ge_isi .str (ge_var 1) fc.f_isinstance fc.f_str)) (gs_cons (gs_ret (ge_and (ge_isi .str (ge_var 0) fc.f_isinstance fc.f_str) (ge_one (ge_cmp (og_eq hu) (ge_var 0) (ge_var 1)))))
    gs_nil) gs_nil)
    (gs_cons (gs_if (gt_tru (ge_isi .tuple (ge_var 1) fc.f_isinstance fc.f_tuple)) (gs_cons (gs_ret (ge_and (ge_isi .tuple (ge_var 0) fc.f_isinstance fc.f_tuple) (ge_one (ge_fn (F 16 _ _ rfl) hr tk (gan_cons (ge_var 0) (gan_cons (ge_var 1) gan_nil))))))
    gs_nil) gs_nil)
    (gs_cons (gs_if (gt_tru (ge_isi .list (ge_var 1) fc.f_isinstance fc.f_list)) (gs_cons (gs_ret (ge_and (ge_isi .list (ge_var 0) fc.f_isinstance fc.f_list) (ge_one (ge_fn (F 16 _ _ rfl) hr tk (gan_cons (ge_var 0) (gan_cons (ge_var 1) gan_nil))))))
    gs_nil) gs_nil)
    (gs_cons (gs_if (GW.pt (gw_or (gt_not (gt_tru (ge_isi .dict (ge_var 0) fc.f_isinstance fc.f_dict))) (gw_or1 (gt_cmp (og_ne hu) (ge_len (ge_var 0) fc.f_len) (ge_len (ge_var 1) fc.f_len))))) (gs_cons (gs_ret ge_bl)
    gs_nil) gs_nil)
    (gs_cons (gs_for hp rfl (gi_seq (ge_var 1)) (gg_name 2 nd) (gs_cons (gs_if (GW.pt (gw_or (gt_cmp (og_notIn hu) (ge_var 2) (ge_var 0)) (gw_or1 (gt_not (gt_tru (ge_fn (F 17 _ _ rfl) hr tk (gan_cons (ge_ix hu1 (ge_var 0) (ge_var 2)) (gan_cons (ge_ix hu1 (ge_var 1) (ge_var 2)) gan_nil)))))))) (gs_cons (gs_ret ge_bl)
    gs_nil) gs_nil)
    gs_nil))
    (gs_cons (gs_for hp rfl (gi_seq (ge_var 0)) (gg_name 2 nd) (gs_cons (gs_if (gt_tru (ge_isi .bool (ge_var 2) fc.f_isinstance fc.f_bool)) (gs_cons (gs_ret ge_bl)
    gs_nil) gs_nil)
    gs_nil))
    (gs_cons (gs_ret ge_bl)
    gs_nil))))))))))
theorem k__law_same {fd : FuncData} (F : AllK P w K mg base sig k Γ) (hwW : w = TheWorld.w) (fc : Fc K mg) (U : FnP K "_law_same" 26 fd) : FnOk P w K mg base (L2.CX P w) (k + 1) (He.ga K "_law_same") fd ["actual", "expected"] (spG K (d__law_same Γ) 2) :=
  fn_G (k := k) U s__law_same (fun args h _ => .inl rfl) fun cdv A outer s H E hr hp tk => w__law_same F hwW fc hr hp tk
theorem s__law_kind : FnScope ["tape", "labels"] ["tape"] (defScope (top 27)) := ⟨rfl, rfl, rfl, by decide +kernel, rfl, by decide +kernel, by decide +kernel⟩
theorem w__law_kind (F : AllK P w K mg base sig k Γ) (hwW : w = TheWorld.w) (fc : Fc K mg) {fa : Addr} {cdv : Value} {A : Around} {outer : List PySem.Env} {s : Shared} {H : Hp} {E : XK} (hr : Room k (A.deeper (envOfC "_law_kind" (defScope (top 27)) s.heap.objs.size fa cdv)))
    (hp : PassesOwn (model P w) (A.deeper (envOfC "_law_kind" (defScope (top 27)) s.heap.objs.size fa cdv)) (envOfC "_law_kind" (defScope (top 27)) s.heap.objs.size fa cdv) (cxOf (L2.CX P w) P w K mg base ["tape", "labels"] "_law_kind" (defScope (top 27)) fa cdv A outer s H E).xe)
    (tk : Takes (cxOf (L2.CX P w) P w K mg base ["tape", "labels"] "_law_kind" (defScope (top 27)) fa cdv A outer s H E) (WD E)) :
    GSs (cxOf (L2.CX P w) P w K mg base ["tape", "labels"] "_law_kind" (defScope (top 27)) fa cdv A outer s H E) (WD E) (defBody (top 27)) (b__law_kind Γ) := by
  have nd : (["tape", "labels"] : List Str).Nodup := s__law_kind.nd
  have hu : (cxOf (L2.CX P w) P w K mg base ["tape", "labels"] "_law_kind" (defScope (top 27)) fa cdv A outer s H E).A.units + 200 < cLine := by
    have := hr.un
    show (A.deeper (envOfC "_law_kind" (defScope (top 27)) s.heap.objs.size fa cdv)).units + 200 < cLine
    omega
  have hu1 : (cxOf (L2.CX P w) P w K mg base ["tape", "labels"] "_law_kind" (defScope (top 27)) fa cdv A outer s H E).A.units + 1 < cLine := by omega
  exact (gs_cons (gs_set 1 (ge_ix hu1 (ge_tup (ga_cons (ge_tup (ga_cons (ge_str [97]) ga_nil)) (ga_cons (ge_tup (ga_cons (ge_str [97]) (ga_cons (ge_str [98]) ga_nil))) (ga_cons (ge_tup (ga_cons (ge_str [97]) (ga_cons (ge_str [98]) ga_nil))) (ga_cons (ge_tup (ga_cons (ge_str [98]) (ga_cons (ge_str [100]) (ga_cons (ge_str [122]) ga_nil)))) ga_nil))))) (ge_fn (F 14 _ _ rfl) hr tk (gan_cons (ge_var 0) (gan_cons ge_int gan_nil)))) nd)
    (gs_cons (gs_ret (ge_tup (ga_cons (ge_bin og_add ge_int (ge_bin og_div (ge_fn (F 14 _ _ rfl) hr tk (gan_cons (ge_var 0) (gan_cons ge_int gan_nil))) ge_int)) (ga_cons (ge_var 1) ga_nil))))
    gs_nil))
theorem k__law_kind {fd : FuncData} (F : AllK P w K mg base sig k Γ) (hwW : w = TheWorld.w) (fc : Fc K mg) (U : FnP K "_law_kind" 27 fd) : FnOk P w K mg base (L2.CX P w) (k + 1) (He.ga K "_law_kind") fd ["tape"] (spG K (d__law_kind Γ) 1) :=
  fn_G (k := k) U s__law_kind (fun args h _ => .inl rfl) fun cdv A outer s H E hr hp tk => w__law_kind F hwW fc hr hp tk
theorem s__law_shape : FnScope ["tape", "kind", "count", "label", "left"] ["tape", "kind", "count"] (defScope (top 28)) := ⟨rfl, rfl, rfl, by decide +kernel, rfl, by decide +kernel, by decide +kernel⟩
theorem w__law_shape (F : AllK P w K mg base sig k Γ) (hwW : w = TheWorld.w) (fc : Fc K mg) {fa : Addr} {cdv : Value} {A : Around} {outer : List PySem.Env} {s : Shared} {H : Hp} {E : XK} (hr : Room k (A.deeper (envOfC "_law_shape" (defScope (top 28)) s.heap.objs.size fa cdv)))
    (hp : PassesOwn (model P w) (A.deeper (envOfC "_law_shape" (defScope (top 28)) s.heap.objs.size fa cdv)) (envOfC "_law_shape" (defScope (top 28)) s.heap.objs.size fa cdv) (cxOf (L2.CX P w) P w K mg base ["tape", "kind", "count", "label", "left"] "_law_shape" (defScope (top 28)) fa cdv A outer s H E).xe)
    (tk : Takes (cxOf (L2.CX P w) P w K mg base ["tape", "kind", "count", "label", "left"] "_law_shape" (defScope (top 28)) fa cdv A outer s H E) (WD E)) :
    GSs (cxOf (L2.CX P w) P w K mg base ["tape", "kind", "count", "label", "left"] "_law_shape" (defScope (top 28)) fa cdv A outer s H E) (WD E) (defBody (top 28)) (b__law_shape Γ) := by
  have nd : (["tape", "kind", "count", "label", "left"] : List Str).Nodup := s__law_shape.nd
  have hu : (cxOf (L2.CX P w) P w K mg base ["tape", "kind", "count", "label", "left"] "_law_shape" (defScope (top 28)) fa cdv A outer s H E).A.units + 200 < cLine := by
    have := hr.un
    show (A.deeper (envOfC "_law_shape" (defScope (top 28)) s.heap.objs.size fa cdv)).units + 200 < cLine
    omega
  have hu1 : (cxOf (L2.CX P w) P w K mg base ["tape", "kind", "count", "label", "left"] "_law_shape" (defScope (top 28)) fa cdv A outer s H E).A.units + 1 < cLine := by omega
  exact (gs_cons (gs_if (gt_cmp (og_eq hu) (ge_var 2) ge_int) (gs_cons (gs_ret (ge_tup ga_nil))
    gs_nil) gs_nil)
    (gs_cons (gs_set 3 (ge_ix hu1 (ge_ix hu1 (ge_var 1) ge_int) (ge_fn (F 14 _ _ rfl) hr tk (gan_cons (ge_var 0) (gan_cons (ge_len (ge_ix hu1 (ge_var 1) ge_int) fc.f_len) gan_nil)))) nd)
    (gs_cons (gs_if (gt_cmp (og_eq hu) (ge_ix hu1 (ge_var 1) ge_int) ge_int) (gs_cons (gs_ret (ge_tup (ga_cons (ge_var 3) (ga_cons (ge_fn (F 19 _ _ rfl) hr tk (gan_cons (ge_var 0) (gan_cons (ge_var 1) (gan_cons (ge_bin og_sub (ge_var 2) ge_int) gan_nil)))) ga_nil))))
    gs_nil) gs_nil)
    (gs_cons (gs_set 4 (ge_fn (F 14 _ _ rfl) hr tk (gan_cons (ge_var 0) (gan_cons (ge_var 2) gan_nil))) nd)
    (gs_cons (gs_ret (ge_tup (ga_cons (ge_var 3) (ga_cons (ge_fn (F 19 _ _ rfl) hr tk (gan_cons (ge_var 0) (gan_cons (ge_var 1) (gan_cons (ge_var 4) gan_nil)))) (ga_cons (ge_fn (F 19 _ _ rfl) hr tk (gan_cons (ge_var 0) (gan_cons (ge_var 1) (gan_cons (ge_bin og_sub (ge_bin og_sub (ge_var 2) ge_int) (ge_var 4)) gan_nil)))) ga_nil)))))
    gs_nil)))))
theorem k__law_shape {fd : FuncData} (F : AllK P w K mg base sig k Γ) (hwW : w = TheWorld.w) (fc : Fc K mg) (U : FnP K "_law_shape" 28 fd) : FnOk P w K mg base (L2.CX P w) (k + 1) (He.ga K "_law_shape") fd ["tape", "kind", "count"] (spG K (d__law_shape Γ) 3) :=
  fn_G (k := k) U s__law_shape (fun args h _ => .inl rfl) fun cdv A outer s H E hr hp tk => w__law_shape F hwW fc hr hp tk
theorem s__law_paths : FnScope ["shape", "path", "found", "way"] ["shape", "path"] (defScope (top 29)) := ⟨rfl, rfl, rfl, by decide +kernel, rfl, by decide +kernel, by decide +kernel⟩
theorem w__law_paths (F : AllK P w K mg base sig k Γ) (hwW : w = TheWorld.w) (fc : Fc K mg) {fa : Addr} {cdv : Value} {A : Around} {outer : List PySem.Env} {s : Shared} {H : Hp} {E : XK} (hr : Room k (A.deeper (envOfC "_law_paths" (defScope (top 29)) s.heap.objs.size fa cdv)))
    (hp : PassesOwn (model P w) (A.deeper (envOfC "_law_paths" (defScope (top 29)) s.heap.objs.size fa cdv)) (envOfC "_law_paths" (defScope (top 29)) s.heap.objs.size fa cdv) (cxOf (L2.CX P w) P w K mg base ["shape", "path", "found", "way"] "_law_paths" (defScope (top 29)) fa cdv A outer s H E).xe)
    (tk : Takes (cxOf (L2.CX P w) P w K mg base ["shape", "path", "found", "way"] "_law_paths" (defScope (top 29)) fa cdv A outer s H E) (WD E)) :
    GSs (cxOf (L2.CX P w) P w K mg base ["shape", "path", "found", "way"] "_law_paths" (defScope (top 29)) fa cdv A outer s H E) (WD E) (defBody (top 29)) (b__law_paths Γ) := by
  have nd : (["shape", "path", "found", "way"] : List Str).Nodup := s__law_paths.nd
  have hu : (cxOf (L2.CX P w) P w K mg base ["shape", "path", "found", "way"] "_law_paths" (defScope (top 29)) fa cdv A outer s H E).A.units + 200 < cLine := by
    have := hr.un
    show (A.deeper (envOfC "_law_paths" (defScope (top 29)) s.heap.objs.size fa cdv)).units + 200 < cLine
    omega
  have hu1 : (cxOf (L2.CX P w) P w K mg base ["shape", "path", "found", "way"] "_law_paths" (defScope (top 29)) fa cdv A outer s H E).A.units + 1 < cLine := by omega
  exact (gs_cons (gs_if (gt_cmp (og_eq hu) (ge_var 0) (ge_tup ga_nil)) (gs_cons (gs_ret (ge_lst ga_nil))
    gs_nil) gs_nil)
    (gs_cons (gs_set 2 (ge_lst (ga_cons (ge_var 1) ga_nil)) nd)
    (gs_cons (gs_for hp rfl (gi_range1 (ge_bin og_sub (ge_len (ge_var 0) fc.f_len) ge_int) fc.f_range) (gg_name 3 nd) (gs_cons (gs_set 2 (ge_bin og_add (ge_var 2) (ge_fn (F 20 _ _ rfl) hr tk (gan_cons (ge_ix hu1 (ge_var 0) (ge_bin og_add (ge_var 3) ge_int)) (gan_cons (ge_bin og_add (ge_var 1) (ge_tup (ga_cons (ge_var 3) ga_nil))) gan_nil)))) nd)
    gs_nil))
    (gs_cons (gs_ret (ge_var 2))
    gs_nil))))
theorem k__law_paths {fd : FuncData} (F : AllK P w K mg base sig k Γ) (hwW : w = TheWorld.w) (fc : Fc K mg) (U : FnP K "_law_paths" 29 fd) : FnOk P w K mg base (L2.CX P w) (k + 1) (He.ga K "_law_paths") fd ["shape", "path"] (spG K (d__law_paths Γ) 2) :=
  fn_G (k := k) U s__law_paths (fun args h _ => .inl rfl) fun cdv A outer s H E hr hp tk => w__law_paths F hwW fc hr hp tk
theorem s__law_signs : FnScope ["kind", "tracks", "marks", "k", "found", "label", "longer", "one"] ["kind", "tracks"] (defScope (top 30)) := ⟨rfl, rfl, rfl, by decide +kernel, rfl, by decide +kernel, by decide +kernel⟩
theorem w__law_signs (F : AllK P w K mg base sig k Γ) (hwW : w = TheWorld.w) (fc : Fc K mg) {fa : Addr} {cdv : Value} {A : Around} {outer : List PySem.Env} {s : Shared} {H : Hp} {E : XK} (hr : Room k (A.deeper (envOfC "_law_signs" (defScope (top 30)) s.heap.objs.size fa cdv)))
    (hp : PassesOwn (model P w) (A.deeper (envOfC "_law_signs" (defScope (top 30)) s.heap.objs.size fa cdv)) (envOfC "_law_signs" (defScope (top 30)) s.heap.objs.size fa cdv) (cxOf (L2.CX P w) P w K mg base ["kind", "tracks", "marks", "k", "found", "label", "longer", "one"] "_law_signs" (defScope (top 30)) fa cdv A outer s H E).xe)
    (tk : Takes (cxOf (L2.CX P w) P w K mg base ["kind", "tracks", "marks", "k", "found", "label", "longer", "one"] "_law_signs" (defScope (top 30)) fa cdv A outer s H E) (WD E)) :
    GSs (cxOf (L2.CX P w) P w K mg base ["kind", "tracks", "marks", "k", "found", "label", "longer", "one"] "_law_signs" (defScope (top 30)) fa cdv A outer s H E) (WD E) (defBody (top 30)) (b__law_signs Γ) := by
  have nd : (["kind", "tracks", "marks", "k", "found", "label", "longer", "one"] : List Str).Nodup := s__law_signs.nd
  have hu : (cxOf (L2.CX P w) P w K mg base ["kind", "tracks", "marks", "k", "found", "label", "longer", "one"] "_law_signs" (defScope (top 30)) fa cdv A outer s H E).A.units + 200 < cLine := by
    have := hr.un
    show (A.deeper (envOfC "_law_signs" (defScope (top 30)) s.heap.objs.size fa cdv)).units + 200 < cLine
    omega
  have hu1 : (cxOf (L2.CX P w) P w K mg base ["kind", "tracks", "marks", "k", "found", "label", "longer", "one"] "_law_signs" (defScope (top 30)) fa cdv A outer s H E).A.units + 1 < cLine := by omega
  exact (gs_cons (gs_set 2 (ge_lst (ga_cons (ge_tup ga_nil) ga_nil)) nd)
    (gs_cons (gs_for hp rfl (gi_range1 (ge_var 1) fc.f_range) (gg_name 3 nd) (gs_cons (gs_set 6 (ge_lst ga_nil) nd)
    (gs_cons (gs_for hp rfl (gi_seq (ge_var 2)) (gg_name 7 nd) (gs_cons (gs_set 6 (ge_bin og_add (ge_var 6) (ge_lst (ga_cons (ge_bin og_add (ge_var 7) (ge_tup (ga_cons ge_int ga_nil))) (ga_cons (ge_bin og_add (ge_var 7) (ge_tup (ga_cons ge_int ga_nil))) ga_nil)))) nd)
    gs_nil))
    (gs_cons (gs_set 2 (ge_var 6) nd)
    gs_nil))))
    (gs_cons (gs_set 4 (ge_lst ga_nil) nd)
    (gs_cons (gs_for hp rfl (gi_seq (ge_ix hu1 (ge_var 0) ge_int)) (gg_name 5 nd) (gs_cons (gs_set 4 (ge_bin og_add (ge_var 4) (ge_lc fin_frozen [("one", 7)] rfl nd (gi_seq (ge_var 2)) (fun _ _ _ _ _ => (gc_name 7 nd)) (fun _ _ _ _ _ => gts_nil) (fun _ _ _ _ _ => (ge_tup (ga_cons (ge_var 5) (ga_cons (ge_var 7) ga_nil)))))) nd)
    gs_nil))
    (gs_cons (gs_ret (ge_var 4))
    gs_nil)))))
theorem k__law_signs {fd : FuncData} (F : AllK P w K mg base sig k Γ) (hwW : w = TheWorld.w) (fc : Fc K mg) (U : FnP K "_law_signs" 30 fd) : FnOk P w K mg base (L2.CX P w) (k + 1) (He.ga K "_law_signs") fd ["kind", "tracks"] (spG K (d__law_signs Γ) 2) :=
  fn_G (k := k) U s__law_signs (fun args h _ => .inl rfl) fun cdv A outer s H E hr hp tk => w__law_signs F hwW fc hr hp tk
theorem s__law_above : FnScope ["machine", "row", "children", "entry", "child"] ["machine", "row", "children"] (defScope (top 31)) := ⟨rfl, rfl, rfl, by decide +kernel, rfl, by decide +kernel, by decide +kernel⟩
theorem w__law_above (F : AllK P w K mg base sig k Γ) (hwW : w = TheWorld.w) (fc : Fc K mg) {fa : Addr} {cdv : Value} {A : Around} {outer : List PySem.Env} {s : Shared} {H : Hp} {E : XK} (hr : Room k (A.deeper (envOfC "_law_above" (defScope (top 31)) s.heap.objs.size fa cdv)))
    (hp : PassesOwn (model P w) (A.deeper (envOfC "_law_above" (defScope (top 31)) s.heap.objs.size fa cdv)) (envOfC "_law_above" (defScope (top 31)) s.heap.objs.size fa cdv) (cxOf (L2.CX P w) P w K mg base ["machine", "row", "children", "entry", "child"] "_law_above" (defScope (top 31)) fa cdv A outer s H E).xe)
    (tk : Takes (cxOf (L2.CX P w) P w K mg base ["machine", "row", "children", "entry", "child"] "_law_above" (defScope (top 31)) fa cdv A outer s H E) (WD E)) :
    GSs (cxOf (L2.CX P w) P w K mg base ["machine", "row", "children", "entry", "child"] "_law_above" (defScope (top 31)) fa cdv A outer s H E) (WD E) (defBody (top 31)) (b__law_above Γ) := by
  have nd : (["machine", "row", "children", "entry", "child"] : List Str).Nodup := s__law_above.nd
  have hu : (cxOf (L2.CX P w) P w K mg base ["machine", "row", "children", "entry", "child"] "_law_above" (defScope (top 31)) fa cdv A outer s H E).A.units + 200 < cLine := by
    have := hr.un
    show (A.deeper (envOfC "_law_above" (defScope (top 31)) s.heap.objs.size fa cdv)).units + 200 < cLine
    omega
  have hu1 : (cxOf (L2.CX P w) P w K mg base ["machine", "row", "children", "entry", "child"] "_law_above" (defScope (top 31)) fa cdv A outer s H E).A.units + 1 < cLine := by omega
  exact (gs_cons (gs_set 3 (ge_ix hu1 (ge_ix hu1 (ge_var 0) ge_int) (ge_var 1)) nd)
    (gs_cons (gs_for hp rfl (gi_seq (ge_var 2)) (gg_name 4 nd) (gs_cons (gs_set 3 (ge_ix hu1 (ge_var 3) (ge_var 4)) nd)
    gs_nil))
    (gs_cons (gs_ret (ge_var 3))
    gs_nil)))
theorem k__law_above {fd : FuncData} (F : AllK P w K mg base sig k Γ) (hwW : w = TheWorld.w) (fc : Fc K mg) (U : FnP K "_law_above" 31 fd) : FnOk P w K mg base (L2.CX P w) (k + 1) (He.ga K "_law_above") fd ["machine", "row", "children"] (spG K (d__law_above Γ) 3) :=
  fn_G (k := k) U s__law_above (fun args h _ => .inl rfl) fun cdv A outer s H E hr hp tk => w__law_above F hwW fc hr hp tk
theorem s__law_run : FnScope ["machine", "marked", "rows", "child"] ["machine", "marked", "rows"] (defScope (top 32)) := ⟨rfl, rfl, rfl, by decide +kernel, rfl, by decide +kernel, by decide +kernel⟩
theorem w__law_run (F : AllK P w K mg base sig k Γ) (hwW : w = TheWorld.w) (fc : Fc K mg) {fa : Addr} {cdv : Value} {A : Around} {outer : List PySem.Env} {s : Shared} {H : Hp} {E : XK} (hr : Room k (A.deeper (envOfC "_law_run" (defScope (top 32)) s.heap.objs.size fa cdv)))
    (hp : PassesOwn (model P w) (A.deeper (envOfC "_law_run" (defScope (top 32)) s.heap.objs.size fa cdv)) (envOfC "_law_run" (defScope (top 32)) s.heap.objs.size fa cdv) (cxOf (L2.CX P w) P w K mg base ["machine", "marked", "rows", "child"] "_law_run" (defScope (top 32)) fa cdv A outer s H E).xe)
    (tk : Takes (cxOf (L2.CX P w) P w K mg base ["machine", "marked", "rows", "child"] "_law_run" (defScope (top 32)) fa cdv A outer s H E) (WD E)) :
    GSs (cxOf (L2.CX P w) P w K mg base ["machine", "marked", "rows", "child"] "_law_run" (defScope (top 32)) fa cdv A outer s H E) (WD E) (defBody (top 32)) (b__law_run Γ) := by
  have nd : (["machine", "marked", "rows", "child"] : List Str).Nodup := s__law_run.nd
  have hu : (cxOf (L2.CX P w) P w K mg base ["machine", "marked", "rows", "child"] "_law_run" (defScope (top 32)) fa cdv A outer s H E).A.units + 200 < cLine := by
    have := hr.un
    show (A.deeper (envOfC "_law_run" (defScope (top 32)) s.heap.objs.size fa cdv)).units + 200 < cLine
    omega
  have hu1 : (cxOf (L2.CX P w) P w K mg base ["machine", "marked", "rows", "child"] "_law_run" (defScope (top 32)) fa cdv A outer s H E).A.units + 1 < cLine := by omega
  exact (gs_cons (gs_if (gt_cmp (og_eq hu) (ge_var 1) (ge_tup ga_nil)) (gs_cons (gs_ret ge_int)
    gs_nil) gs_nil)
    (gs_cons (gs_ret (ge_fn (F 22 _ _ rfl) hr tk (gan_cons (ge_var 0) (gan_cons (ge_ixN hu hwW (ge_var 2) (ge_ix hu1 (ge_var 1) ge_int)) (gan_cons (ge_lc fin_frozen [("child", 3)] rfl nd (gi_seq (ge_cut (ge_var 1) (go_some ge_int) go_none)) (fun _ _ _ _ _ => (gc_name 3 nd)) (fun _ _ _ _ _ => gts_nil) (fun _ _ _ _ _ => (ge_fn (F 23 _ _ rfl) hr GH.takes0 (gan_cons (ge_var 0) (gan_cons (ge_var 3) (gan_cons (ge_var 2) gan_nil)))))) gan_nil)))))
    gs_nil))
theorem k__law_run {fd : FuncData} (F : AllK P w K mg base sig k Γ) (hwW : w = TheWorld.w) (fc : Fc K mg) (U : FnP K "_law_run" 32 fd) : FnOk P w K mg base (L2.CX P w) (k + 1) (He.ga K "_law_run") fd ["machine", "marked", "rows"] (spG K (d__law_run Γ) 3) :=
  fn_G (k := k) U s__law_run (fun args h _ => .inl rfl) fun cdv A outer s H E hr hp tk => w__law_run F hwW fc hr hp tk
theorem s__law_rows : FnScope ["kind", "tracks", "listed", "rows", "k"] ["kind", "tracks"] (defScope (top 33)) := ⟨rfl, rfl, rfl, by decide +kernel, rfl, by decide +kernel, by decide +kernel⟩
theorem w__law_rows (F : AllK P w K mg base sig k Γ) (hwW : w = TheWorld.w) (fc : Fc K mg) {fa : Addr} {cdv : Value} {A : Around} {outer : List PySem.Env} {s : Shared} {H : Hp} {E : XK} (hr : Room k (A.deeper (envOfC "_law_rows" (defScope (top 33)) s.heap.objs.size fa cdv)))
    (hp : PassesOwn (model P w) (A.deeper (envOfC "_law_rows" (defScope (top 33)) s.heap.objs.size fa cdv)) (envOfC "_law_rows" (defScope (top 33)) s.heap.objs.size fa cdv) (cxOf (L2.CX P w) P w K mg base ["kind", "tracks", "listed", "rows", "k"] "_law_rows" (defScope (top 33)) fa cdv A outer s H E).xe)
    (tk : Takes (cxOf (L2.CX P w) P w K mg base ["kind", "tracks", "listed", "rows", "k"] "_law_rows" (defScope (top 33)) fa cdv A outer s H E) (WD E)) :
    GSs (cxOf (L2.CX P w) P w K mg base ["kind", "tracks", "listed", "rows", "k"] "_law_rows" (defScope (top 33)) fa cdv A outer s H E) (WD E) (defBody (top 33)) (b__law_rows Γ) := by
  have nd : (["kind", "tracks", "listed", "rows", "k"] : List Str).Nodup := s__law_rows.nd
  have hu : (cxOf (L2.CX P w) P w K mg base ["kind", "tracks", "listed", "rows", "k"] "_law_rows" (defScope (top 33)) fa cdv A outer s H E).A.units + 200 < cLine := by
    have := hr.un
    show (A.deeper (envOfC "_law_rows" (defScope (top 33)) s.heap.objs.size fa cdv)).units + 200 < cLine
    omega
  have hu1 : (cxOf (L2.CX P w) P w K mg base ["kind", "tracks", "listed", "rows", "k"] "_law_rows" (defScope (top 33)) fa cdv A outer s H E).A.units + 1 < cLine := by omega
  exact (gs_cons (gs_set 2 (ge_fn (F 21 _ _ rfl) hr tk (gan_cons (ge_var 0) (gan_cons (ge_var 1) gan_nil))) nd)
    (gs_cons (gs_set 3 ge_newN nd)
    (gs_cons (gs_for hp rfl (gi_range1 (ge_len (ge_var 2) fc.f_len) fc.f_range) (gg_name 4 nd) (gs_cons (gs_asg (ge_var 4) (gg_subN hu hwW (ge_var 3) (ge_ix hu1 (ge_var 2) (ge_var 4)) (by intro _; rfl)))
    gs_nil))
    (gs_cons (gs_ret (ge_var 3))
    gs_nil))))
theorem k__law_rows {fd : FuncData} (F : AllK P w K mg base sig k Γ) (hwW : w = TheWorld.w) (fc : Fc K mg) (U : FnP K "_law_rows" 33 fd) : FnOk P w K mg base (L2.CX P w) (k + 1) (He.ga K "_law_rows") fd ["kind", "tracks"] (spG K (d__law_rows Γ) 2) :=
  fn_G (k := k) U s__law_rows (fun args h _ => .inl rfl) fun cdv A outer s H E hr hp tk => w__law_rows F hwW fc hr hp tk
theorem s__law_marked : FnScope ["shape", "path", "sets", "sign", "one", "k"] ["shape", "path", "sets"] (defScope (top 34)) := ⟨rfl, rfl, rfl, by decide +kernel, rfl, by decide +kernel, by decide +kernel⟩
theorem w__law_marked (F : AllK P w K mg base sig k Γ) (hwW : w = TheWorld.w) (fc : Fc K mg) {fa : Addr} {cdv : Value} {A : Around} {outer : List PySem.Env} {s : Shared} {H : Hp} {E : XK} (hr : Room k (A.deeper (envOfC "_law_marked" (defScope (top 34)) s.heap.objs.size fa cdv)))
    (hp : PassesOwn (model P w) (A.deeper (envOfC "_law_marked" (defScope (top 34)) s.heap.objs.size fa cdv)) (envOfC "_law_marked" (defScope (top 34)) s.heap.objs.size fa cdv) (cxOf (L2.CX P w) P w K mg base ["shape", "path", "sets", "sign", "one", "k"] "_law_marked" (defScope (top 34)) fa cdv A outer s H E).xe)
    (tk : Takes (cxOf (L2.CX P w) P w K mg base ["shape", "path", "sets", "sign", "one", "k"] "_law_marked" (defScope (top 34)) fa cdv A outer s H E) (WD E)) :
    GSs (cxOf (L2.CX P w) P w K mg base ["shape", "path", "sets", "sign", "one", "k"] "_law_marked" (defScope (top 34)) fa cdv A outer s H E) (WD E) (defBody (top 34)) (b__law_marked Γ) := by
  have nd : (["shape", "path", "sets", "sign", "one", "k"] : List Str).Nodup := s__law_marked.nd
  have hu : (cxOf (L2.CX P w) P w K mg base ["shape", "path", "sets", "sign", "one", "k"] "_law_marked" (defScope (top 34)) fa cdv A outer s H E).A.units + 200 < cLine := by
    have := hr.un
    show (A.deeper (envOfC "_law_marked" (defScope (top 34)) s.heap.objs.size fa cdv)).units + 200 < cLine
    omega
  have hu1 : (cxOf (L2.CX P w) P w K mg base ["shape", "path", "sets", "sign", "one", "k"] "_law_marked" (defScope (top 34)) fa cdv A outer s H E).A.units + 1 < cLine := by omega
  exact (gs_cons (gs_if (gt_cmp (og_eq hu) (ge_var 0) (ge_tup ga_nil)) (gs_cons (gs_ret (ge_tup ga_nil))
    gs_nil) gs_nil)
    (gs_cons (gs_set 3 (ge_tup (ga_cons (ge_ix hu1 (ge_var 0) ge_int) (ga_cons (ge_t1 c1_tuple (ge_lc fin_frozen [("one", 4)] rfl nd (gi_seq (ge_var 2)) (fun _ _ _ _ _ => (gc_name 4 nd)) (fun _ _ _ _ _ => gts_nil) (fun _ _ _ _ _ => (ge_if (gt_cmp (og_in hu) (ge_var 1) (ge_var 4)) ge_int ge_int))) fc.f_tuple) ga_nil))) nd)
    (gs_cons (gs_ret (ge_bin og_add (ge_tup (ga_cons (ge_var 3) ga_nil)) (ge_t1 c1_tuple (ge_lc fin_frozen [("k", 5)] rfl nd (gi_range2 ge_int (ge_len (ge_var 0) fc.f_len) fc.f_range) (fun _ _ _ _ _ => (gc_name 5 nd)) (fun _ _ _ _ _ => gts_nil) (fun _ _ _ _ _ => (ge_fn (F 25 _ _ rfl) hr GH.takes0 (gan_cons (ge_ix hu1 (ge_var 0) (ge_var 5)) (gan_cons (ge_bin og_add (ge_var 1) (ge_tup (ga_cons (ge_bin og_sub (ge_var 5) ge_int) ga_nil))) (gan_cons (ge_var 2) gan_nil)))))) fc.f_tuple)))
    gs_nil)))
theorem k__law_marked {fd : FuncData} (F : AllK P w K mg base sig k Γ) (hwW : w = TheWorld.w) (fc : Fc K mg) (U : FnP K "_law_marked" 34 fd) : FnOk P w K mg base (L2.CX P w) (k + 1) (He.ga K "_law_marked") fd ["shape", "path", "sets"] (spG K (d__law_marked Γ) 3) :=
  fn_G (k := k) U s__law_marked (fun args h _ => .inl rfl) fun cdv A outer s H E hr hp tk => w__law_marked F hwW fc hr hp tk
theorem s__law_draw_machine : FnScope ["tape", "kind", "tracks", "many", "table", "sign", "row", "k", "j"] ["tape", "kind", "tracks", "many"] (defScope (top 35)) := ⟨rfl, rfl, rfl, by decide +kernel, rfl, by decide +kernel, by decide +kernel⟩
theorem w__law_draw_machine (F : AllK P w K mg base sig k Γ) (hwW : w = TheWorld.w) (fc : Fc K mg) {fa : Addr} {cdv : Value} {A : Around} {outer : List PySem.Env} {s : Shared} {H : Hp} {E : XK} (hr : Room k (A.deeper (envOfC "_law_draw_machine" (defScope (top 35)) s.heap.objs.size fa cdv)))
    (hp : PassesOwn (model P w) (A.deeper (envOfC "_law_draw_machine" (defScope (top 35)) s.heap.objs.size fa cdv)) (envOfC "_law_draw_machine" (defScope (top 35)) s.heap.objs.size fa cdv) (cxOf (L2.CX P w) P w K mg base ["tape", "kind", "tracks", "many", "table", "sign", "row", "k", "j"] "_law_draw_machine" (defScope (top 35)) fa cdv A outer s H E).xe)
    (tk : Takes (cxOf (L2.CX P w) P w K mg base ["tape", "kind", "tracks", "many", "table", "sign", "row", "k", "j"] "_law_draw_machine" (defScope (top 35)) fa cdv A outer s H E) (WD E)) :
    GSs (cxOf (L2.CX P w) P w K mg base ["tape", "kind", "tracks", "many", "table", "sign", "row", "k", "j"] "_law_draw_machine" (defScope (top 35)) fa cdv A outer s H E) (WD E) (defBody (top 35)) (b__law_draw_machine Γ) := by
  have nd : (["tape", "kind", "tracks", "many", "table", "sign", "row", "k", "j"] : List Str).Nodup := s__law_draw_machine.nd
  have hu : (cxOf (L2.CX P w) P w K mg base ["tape", "kind", "tracks", "many", "table", "sign", "row", "k", "j"] "_law_draw_machine" (defScope (top 35)) fa cdv A outer s H E).A.units + 200 < cLine := by
    have := hr.un
    show (A.deeper (envOfC "_law_draw_machine" (defScope (top 35)) s.heap.objs.size fa cdv)).units + 200 < cLine
    omega
  have hu1 : (cxOf (L2.CX P w) P w K mg base ["tape", "kind", "tracks", "many", "table", "sign", "row", "k", "j"] "_law_draw_machine" (defScope (top 35)) fa cdv A outer s H E).A.units + 1 < cLine := by omega
  exact (gs_cons (gs_set 4 (ge_lstM ga_nil) nd)
    (gs_cons (gs_for hp rfl (gi_seq (ge_fn (F 21 _ _ rfl) hr tk (gan_cons (ge_var 1) (gan_cons (ge_var 2) gan_nil)))) (gg_name 5 nd) (gs_cons (gs_setLc fin_frozen 6 [("k", 7)] rfl nd (gi_range1 (ge_var 3) fc.f_range) (fun _ _ _ _ _ => (gc_name 7 nd)) (fun _ _ _ _ _ => gts_nil) (fun _ _ _ _ _ => (ge_fn (F 14 _ _ rfl) hr GH.takes0 (gan_cons (ge_var 0) (gan_cons (ge_var 3) gan_nil)))))
    (gs_cons (gs_if (gt_cmp (og_eq hu) (ge_ix hu1 (ge_var 1) ge_int) ge_int) (gs_cons (gs_setLc fin_frozen 6 [("j", 8)] rfl nd (gi_range1 (ge_var 3) fc.f_range) (fun _ _ _ _ _ => (gc_name 8 nd)) (fun _ _ _ _ _ => gts_nil) (fun _ _ _ _ _ => (ge_t1 c1_tuple (ge_lc fin_frozen [("k", 7)] rfl nd (gi_range1 (ge_var 3) fc.f_range) (fun _ _ _ _ _ => (gc_name 7 nd)) (fun _ _ _ _ _ => gts_nil) (fun _ _ _ _ _ => (ge_fn (F 14 _ _ rfl) hr GH.takes0 (gan_cons (ge_var 0) (gan_cons (ge_var 3) gan_nil))))) fc.f_tuple)))
    gs_nil) gs_nil)
    (gs_cons (gs_expr (ge_append (ge_var 4) (ge_t1 c1_tuple (ge_var 6) fc.f_tuple)))
    gs_nil))))
    (gs_cons (gs_ret (ge_tup (ga_cons (ge_var 1) (ga_cons (ge_var 2) (ga_cons (ge_t1 c1_tuple (ge_var 4) fc.f_tuple) (ga_cons (ge_t1 c1_tuple (ge_lc fin_frozen [("k", 7)] rfl nd (gi_range1 (ge_var 3) fc.f_range) (fun _ _ _ _ _ => (gc_name 7 nd)) (fun _ _ _ _ _ => gts_nil) (fun _ _ _ _ _ => (ge_cmp (og_eq hu) (ge_fn (F 14 _ _ rfl) hr GH.takes0 (gan_cons (ge_var 0) (gan_cons ge_int gan_nil))) ge_int))) fc.f_tuple) ga_nil))))))
    gs_nil)))
theorem k__law_draw_machine {fd : FuncData} (F : AllK P w K mg base sig k Γ) (hwW : w = TheWorld.w) (fc : Fc K mg) (U : FnP K "_law_draw_machine" 35 fd) : FnOk P w K mg base (L2.CX P w) (k + 1) (He.ga K "_law_draw_machine") fd ["tape", "kind", "tracks", "many"] (spG K (d__law_draw_machine Γ) 4) :=
  fn_G (k := k) U s__law_draw_machine (fun args h _ => .inl rfl) fun cdv A outer s H E hr hp tk => w__law_draw_machine F hwW fc hr hp tk
theorem s__law_is_row : FnScope ["value", "many", "levels", "one"] ["value", "many", "levels"] (defScope (top 36)) := ⟨rfl, rfl, rfl, by decide +kernel, rfl, by decide +kernel, by decide +kernel⟩
theorem w__law_is_row (F : AllK P w K mg base sig k Γ) (hwW : w = TheWorld.w) (fc : Fc K mg) {fa : Addr} {cdv : Value} {A : Around} {outer : List PySem.Env} {s : Shared} {H : Hp} {E : XK} (hr : Room k (A.deeper (envOfC "_law_is_row" (defScope (top 36)) s.heap.objs.size fa cdv)))
    (hp : PassesOwn (model P w) (A.deeper (envOfC "_law_is_row" (defScope (top 36)) s.heap.objs.size fa cdv)) (envOfC "_law_is_row" (defScope (top 36)) s.heap.objs.size fa cdv) (cxOf (L2.CX P w) P w K mg base ["value", "many", "levels", "one"] "_law_is_row" (defScope (top 36)) fa cdv A outer s H E).xe)
    (tk : Takes (cxOf (L2.CX P w) P w K mg base ["value", "many", "levels", "one"] "_law_is_row" (defScope (top 36)) fa cdv A outer s H E) (WD E)) :
    GSs (cxOf (L2.CX P w) P w K mg base ["value", "many", "levels", "one"] "_law_is_row" (defScope (top 36)) fa cdv A outer s H E) (WD E) (defBody (top 36)) (b__law_is_row Γ) := by
  have nd : (["value", "many", "levels", "one"] : List Str).Nodup := s__law_is_row.nd
  have hu : (cxOf (L2.CX P w) P w K mg base ["value", "many", "levels", "one"] "_law_is_row" (defScope (top 36)) fa cdv A outer s H E).A.units + 200 < cLine := by
    have := hr.un
    show (A.deeper (envOfC "_law_is_row" (defScope (top 36)) s.heap.objs.size fa cdv)).units + 200 < cLine
    omega
  have hu1 : (cxOf (L2.CX P w) P w K mg base ["value", "many", "levels", "one"] "_law_is_row" (defScope (top 36)) fa cdv A outer s H E).A.units + 1 < cLine := by omega
  exact (gs_cons (gs_if (gt_cmp (og_eq hu) (ge_var 2) ge_int) (gs_cons (gs_ret (ge_and (ge_isi .int (ge_var 0) fc.f_isinstance fc.f_int) (ge_and (ge_not (ge_isi .bool (ge_var 0) fc.f_isinstance fc.f_bool)) (ge_one (ge_chain og_le og_lt ge_int (ge_var 0) (ge_var 1))))))
    gs_nil) gs_nil)
    (gs_cons (gs_if (GW.pt (gw_or (gt_not (gt_tru (ge_isi .tuple (ge_var 0) fc.f_isinstance fc.f_tuple))) (gw_or1 (gt_cmp (og_ne hu) (ge_len (ge_var 0) fc.f_len) (ge_var 1))))) (gs_cons (gs_ret ge_bl)
    gs_nil) gs_nil)
    (gs_cons (gs_ret (ge_cmp (og_eq hu) (ge_lc fin_frozen [("one", 3)] rfl nd (gi_seq (ge_var 0)) (fun _ _ _ _ _ => (gc_name 3 nd)) (fun _ _ _ _ _ => (gts_one (gt_not (gt_tru (ge_fn (F 27 _ _ rfl) hr GH.takes0 (gan_cons (ge_var 3) (gan_cons (ge_var 1) (gan_cons (ge_bin og_sub (ge_var 2) ge_int) gan_nil)))))))) (fun _ _ _ _ _ => (ge_var 3))) (ge_lst ga_nil)))
    gs_nil)))
theorem k__law_is_row {fd : FuncData} (F : AllK P w K mg base sig k Γ) (hwW : w = TheWorld.w) (fc : Fc K mg) (U : FnP K "_law_is_row" 36 fd) : FnOk P w K mg base (L2.CX P w) (k + 1) (He.ga K "_law_is_row") fd ["value", "many", "levels"] (spG K (d__law_is_row Γ) 3) :=
  fn_G (k := k) U s__law_is_row (fun args h _ => .inl rfl) fun cdv A outer s H E hr hp tk => w__law_is_row F hwW fc hr hp tk
theorem s__law_is_machine : FnScope ["value", "labels", "kind", "tracks", "table", "good", "one", "row", "k"] ["value"] (defScope (top 37)) := ⟨rfl, rfl, rfl, by decide +kernel, rfl, by decide +kernel, by decide +kernel⟩
theorem w__law_is_machine (F : AllK P w K mg base sig k Γ) (hwW : w = TheWorld.w) (fc : Fc K mg) {fa : Addr} {cdv : Value} {A : Around} {outer : List PySem.Env} {s : Shared} {H : Hp} {E : XK} (hr : Room k (A.deeper (envOfC "_law_is_machine" (defScope (top 37)) s.heap.objs.size fa cdv)))
    (hp : PassesOwn (model P w) (A.deeper (envOfC "_law_is_machine" (defScope (top 37)) s.heap.objs.size fa cdv)) (envOfC "_law_is_machine" (defScope (top 37)) s.heap.objs.size fa cdv) (cxOf (L2.CX P w) P w K mg base ["value", "labels", "kind", "tracks", "table", "good", "one", "row", "k"] "_law_is_machine" (defScope (top 37)) fa cdv A outer s H E).xe)
    (tk : Takes (cxOf (L2.CX P w) P w K mg base ["value", "labels", "kind", "tracks", "table", "good", "one", "row", "k"] "_law_is_machine" (defScope (top 37)) fa cdv A outer s H E) (WD E)) :
    GSs (cxOf (L2.CX P w) P w K mg base ["value", "labels", "kind", "tracks", "table", "good", "one", "row", "k"] "_law_is_machine" (defScope (top 37)) fa cdv A outer s H E) (WD E) (defBody (top 37)) (b__law_is_machine Γ) := by
  have nd : (["value", "labels", "kind", "tracks", "table", "good", "one", "row", "k"] : List Str).Nodup := s__law_is_machine.nd
  have hu : (cxOf (L2.CX P w) P w K mg base ["value", "labels", "kind", "tracks", "table", "good", "one", "row", "k"] "_law_is_machine" (defScope (top 37)) fa cdv A outer s H E).A.units + 200 < cLine := by
    have := hr.un
    show (A.deeper (envOfC "_law_is_machine" (defScope (top 37)) s.heap.objs.size fa cdv)).units + 200 < cLine
    omega
  have hu1 : (cxOf (L2.CX P w) P w K mg base ["value", "labels", "kind", "tracks", "table", "good", "one", "row", "k"] "_law_is_machine" (defScope (top 37)) fa cdv A outer s H E).A.units + 1 < cLine := by omega
  exact (gs_cons (gs_asg (ge_var 0) (gg_tup rfl (ggs_cons (gg_name 2 nd) (ggs_cons (gg_name 3 nd) (ggs_cons (gg_name 4 nd) (ggs_cons (gg_name 5 nd) ggs_nil))))))
    (gs_cons (gs_if (GW.pt (gw_or (gt_cmp (og_notIn hu) (ge_ix hu1 (ge_var 2) ge_int) (ge_lst (ga_cons ge_int (ga_cons ge_int ga_nil)))) (gw_or (gt_not (gt_chain og_le og_le ge_int (ge_len (ge_ix hu1 (ge_var 2) ge_int) fc.f_len) ge_int)) (gw_or (gt_not (gt_chain og_le og_le ge_int (ge_var 3) ge_int)) (gw_or1 (gt_not (gt_chain og_le og_le ge_int (ge_len (ge_var 5) fc.f_len) ge_int))))))) (gs_cons (gs_ret ge_bl)
    gs_nil) gs_nil)
    (gs_cons (gs_set 1 (ge_t1 c1_list (ge_ix hu1 (ge_var 2) ge_int) fc.f_list) nd)
    (gs_cons (gs_if (GW.pt (gw_or (gt_cmp (og_ne hu) (ge_var 1) (ge_b1 (c1_sorted hu) (ge_var 1) fc.f_sorted)) (gw_or1 (gt_cmp (og_ne hu) (ge_lc fin_frozen [("k", 8)] rfl nd (gi_range2 ge_int (ge_len (ge_var 1) fc.f_len) fc.f_range) (fun _ _ _ _ _ => (gc_name 8 nd)) (fun _ _ _ _ _ => (gts_one (gt_cmp (og_eq hu) (ge_ix hu1 (ge_var 1) (ge_var 8)) (ge_ix hu1 (ge_var 1) (ge_bin og_sub (ge_var 8) ge_int))))) (fun _ _ _ _ _ => (ge_var 8))) (ge_lst ga_nil))))) (gs_cons (gs_ret ge_bl)
    gs_nil) gs_nil)
    (gs_cons (gs_if (gt_cmp (og_ne hu) (ge_lc fin_frozen [("one", 6)] rfl nd (gi_seq (ge_var 1)) (fun _ _ _ _ _ => (gc_name 6 nd)) (fun _ _ _ _ _ => (gts_one (GW.pt (gw_or (gt_cmp (og_ne hu) (ge_len (ge_var 6) fc.f_len) ge_int) (gw_or1 (gt_not (gt_chain og_leS og_leS (ge_str [97]) (ge_var 6) (ge_str [122])))))))) (fun _ _ _ _ _ => (ge_var 6))) (ge_lst ga_nil)) (gs_cons (gs_ret ge_bl)
    gs_nil) gs_nil)
    (gs_cons (gs_if (GW.pt (gw_or (gt_cmp (og_ne hu) (ge_lc fin_frozen [("one", 6)] rfl nd (gi_seq (ge_var 5)) (fun _ _ _ _ _ => (gc_name 6 nd)) (fun _ _ _ _ _ => (gts_one (gt_not (gt_tru (ge_isi .bool (ge_var 6) fc.f_isinstance fc.f_bool))))) (fun _ _ _ _ _ => (ge_var 6))) (ge_lst ga_nil)) (gw_or1 (gt_cmp (og_ne hu) (ge_len (ge_var 4) fc.f_len) (ge_len (ge_fn (F 21 _ _ rfl) hr tk (gan_cons (ge_var 2) (gan_cons (ge_var 3) gan_nil))) fc.f_len))))) (gs_cons (gs_ret ge_bl)
    gs_nil) gs_nil)
    (gs_cons (gs_ret (ge_cmp (og_eq hu) (ge_lc fin_frozen [("row", 7)] rfl nd (gi_seq (ge_var 4)) (fun _ _ _ _ _ => (gc_name 7 nd)) (fun _ _ _ _ _ => (gts_one (gt_not (gt_tru (ge_fn (F 27 _ _ rfl) hr GH.takes0 (gan_cons (ge_var 7) (gan_cons (ge_len (ge_var 5) fc.f_len) (gan_cons (ge_ix hu1 (ge_var 2) ge_int) gan_nil)))))))) (fun _ _ _ _ _ => (ge_var 7))) (ge_lst ga_nil)))
    gs_nil)))))))
theorem k__law_is_machine {fd : FuncData} (F : AllK P w K mg base sig k Γ) (hwW : w = TheWorld.w) (fc : Fc K mg) (U : FnP K "_law_is_machine" 37 fd) : FnOk P w K mg base (L2.CX P w) (k + 1) (He.ga K "_law_is_machine") fd ["value"] (spG K (d__law_is_machine Γ) 1) :=
  fn_G (k := k) U s__law_is_machine (fun args h _ => .inl rfl) fun cdv A outer s H E hr hp tk => w__law_is_machine F hwW fc hr hp tk
theorem s__law_spoilt : FnScope ["tape", "machine", "choice", "kind", "tracks", "table", "good"] ["tape", "machine"] (defScope (top 38)) := ⟨rfl, rfl, rfl, by decide +kernel, rfl, by decide +kernel, by decide +kernel⟩
theorem w__law_spoilt (F : AllK P w K mg base sig k Γ) (hwW : w = TheWorld.w) (fc : Fc K mg) {fa : Addr} {cdv : Value} {A : Around} {outer : List PySem.Env} {s : Shared} {H : Hp} {E : XK} (hr : Room k (A.deeper (envOfC "_law_spoilt" (defScope (top 38)) s.heap.objs.size fa cdv)))
    (hp : PassesOwn (model P w) (A.deeper (envOfC "_law_spoilt" (defScope (top 38)) s.heap.objs.size fa cdv)) (envOfC "_law_spoilt" (defScope (top 38)) s.heap.objs.size fa cdv) (cxOf (L2.CX P w) P w K mg base ["tape", "machine", "choice", "kind", "tracks", "table", "good"] "_law_spoilt" (defScope (top 38)) fa cdv A outer s H E).xe)
    (tk : Takes (cxOf (L2.CX P w) P w K mg base ["tape", "machine", "choice", "kind", "tracks", "table", "good"] "_law_spoilt" (defScope (top 38)) fa cdv A outer s H E) (WD E)) :
    GSs (cxOf (L2.CX P w) P w K mg base ["tape", "machine", "choice", "kind", "tracks", "table", "good"] "_law_spoilt" (defScope (top 38)) fa cdv A outer s H E) (WD E) (defBody (top 38)) (b__law_spoilt Γ) := by
  have nd : (["tape", "machine", "choice", "kind", "tracks", "table", "good"] : List Str).Nodup := s__law_spoilt.nd
  have hu : (cxOf (L2.CX P w) P w K mg base ["tape", "machine", "choice", "kind", "tracks", "table", "good"] "_law_spoilt" (defScope (top 38)) fa cdv A outer s H E).A.units + 200 < cLine := by
    have := hr.un
    show (A.deeper (envOfC "_law_spoilt" (defScope (top 38)) s.heap.objs.size fa cdv)).units + 200 < cLine
    omega
  have hu1 : (cxOf (L2.CX P w) P w K mg base ["tape", "machine", "choice", "kind", "tracks", "table", "good"] "_law_spoilt" (defScope (top 38)) fa cdv A outer s H E).A.units + 1 < cLine := by omega
  exact (gs_cons (gs_asg (ge_var 1) (gg_tup rfl (ggs_cons (gg_name 3 nd) (ggs_cons (gg_name 4 nd) (ggs_cons (gg_name 5 nd) (ggs_cons (gg_name 6 nd) ggs_nil))))))
    (gs_cons (gs_set 2 (ge_fn (F 14 _ _ rfl) hr tk (gan_cons (ge_var 0) (gan_cons ge_int gan_nil))) nd)
    (gs_cons (gs_if (gt_cmp (og_eq hu) (ge_var 2) ge_int) (gs_cons (gs_ret (ge_tup (ga_cons (ge_tup (ga_cons (ge_ix hu1 (ge_var 3) ge_int) (ga_cons (ge_bin og_add (ge_revT (ge_ix hu1 (ge_var 3) ge_int)) (ge_tup (ga_cons (ge_str [99]) ga_nil))) ga_nil))) (ga_cons (ge_var 4) (ga_cons (ge_var 5) (ga_cons (ge_var 6) ga_nil))))))
    gs_nil) gs_nil)
    (gs_cons (gs_if (gt_cmp (og_eq hu) (ge_var 2) ge_int) (gs_cons (gs_ret (ge_tup (ga_cons (ge_var 3) (ga_cons (ge_bin og_add (ge_var 4) ge_int) (ga_cons (ge_var 5) (ga_cons (ge_var 6) ga_nil))))))
    gs_nil) gs_nil)
    (gs_cons (gs_if (gt_cmp (og_eq hu) (ge_var 2) ge_int) (gs_cons (gs_ret (ge_tup (ga_cons (ge_var 3) (ga_cons (ge_var 4) (ga_cons (ge_cut (ge_var 5) (go_some ge_int) go_none) (ga_cons (ge_var 6) ga_nil))))))
    gs_nil) gs_nil)
    (gs_cons (gs_if (gt_cmp (og_eq hu) (ge_var 2) ge_int) (gs_cons (gs_ret (ge_tup (ga_cons (ge_var 3) (ga_cons (ge_var 4) (ga_cons (ge_var 5) (ga_cons (ge_bin og_add (ge_var 6) (ge_tup (ga_cons ge_bl ga_nil))) ga_nil))))))
    gs_nil) gs_nil)
    (gs_cons (gs_if (gt_cmp (og_eq hu) (ge_var 2) ge_int) (gs_cons (gs_ret (ge_tup (ga_cons (ge_var 3) (ga_cons (ge_var 4) (ga_cons (ge_var 5) (ga_cons (ge_bin og_add (ge_cut (ge_var 6) go_none (go_some (ge_neg ge_int))) (ge_tup (ga_cons ge_int ga_nil))) ga_nil))))))
    gs_nil) gs_nil)
    (gs_cons (gs_if (gt_cmp (og_eq hu) (ge_var 2) ge_int) (gs_cons (gs_ret (ge_tup (ga_cons (ge_var 3) (ga_cons (ge_var 4) (ga_cons (ge_bin og_add (ge_tup (ga_cons (ge_cut (ge_ix hu1 (ge_var 5) ge_int) go_none (go_some (ge_neg ge_int))) ga_nil)) (ge_cut (ge_var 5) (go_some ge_int) go_none)) (ga_cons (ge_var 6) ga_nil))))))
    gs_nil) gs_nil)
    (gs_cons (gs_if (gt_cmp (og_eq hu) (ge_var 2) ge_int) (gs_cons (gs_ret (ge_tup (ga_cons (ge_var 3) (ga_cons (ge_var 4) (ga_cons (ge_bin og_add (ge_tup (ga_cons (ge_bin og_add (ge_cut (ge_ix hu1 (ge_var 5) ge_int) go_none (go_some (ge_neg ge_int))) (ge_tup (ga_cons (ge_len (ge_var 6) fc.f_len) ga_nil))) ga_nil)) (ge_cut (ge_var 5) (go_some ge_int) go_none)) (ga_cons (ge_var 6) ga_nil))))))
    gs_nil) gs_nil)
    (gs_cons (gs_ret (ge_tup (ga_cons (ge_var 3) (ga_cons (ge_var 4) (ga_cons (ge_bin og_add (ge_tup (ga_cons (ge_bin og_add (ge_cut (ge_ix hu1 (ge_var 5) ge_int) go_none (go_some (ge_neg ge_int))) (ge_tup (ga_cons ge_bl ga_nil))) ga_nil)) (ge_cut (ge_var 5) (go_some ge_int) go_none)) (ga_cons (ge_var 6) ga_nil))))))
    gs_nil))))))))))
theorem k__law_spoilt {fd : FuncData} (F : AllK P w K mg base sig k Γ) (hwW : w = TheWorld.w) (fc : Fc K mg) (U : FnP K "_law_spoilt" 38 fd) : FnOk P w K mg base (L2.CX P w) (k + 1) (He.ga K "_law_spoilt") fd ["tape", "machine"] (spG K (d__law_spoilt Γ) 2) :=
  fn_G (k := k) U s__law_spoilt (fun args h _ => .inl rfl) fun cdv A outer s H E hr hp tk => w__law_spoilt F hwW fc hr hp tk
theorem s_law : FnScope ["script", "tape", "kind", "tracks", "machine", "listed", "shape", "sets", "k", "marked", "state", "other", "path"] ["script"] (defScope (top 39)) := ⟨rfl, rfl, rfl, by decide +kernel, rfl, by decide +kernel, by decide +kernel⟩
theorem w_law (F : AllK P w K mg base sig k Γ) (hwW : w = TheWorld.w) (fc : Fc K mg) {fa : Addr} {cdv : Value} {A : Around} {outer : List PySem.Env} {s : Shared} {H : Hp} {E : XK} (hr : Room k (A.deeper (envOfC "law" (defScope (top 39)) s.heap.objs.size fa cdv)))
    (hp : PassesOwn (model P w) (A.deeper (envOfC "law" (defScope (top 39)) s.heap.objs.size fa cdv)) (envOfC "law" (defScope (top 39)) s.heap.objs.size fa cdv) (cxOf (L2.CX P w) P w K mg base ["script", "tape", "kind", "tracks", "machine", "listed", "shape", "sets", "k", "marked", "state", "other", "path"] "law" (defScope (top 39)) fa cdv A outer s H E).xe)
    (tk : Takes (cxOf (L2.CX P w) P w K mg base ["script", "tape", "kind", "tracks", "machine", "listed", "shape", "sets", "k", "marked", "state", "other", "path"] "law" (defScope (top 39)) fa cdv A outer s H E) (WD E)) :
    GSs (cxOf (L2.CX P w) P w K mg base ["script", "tape", "kind", "tracks", "machine", "listed", "shape", "sets", "k", "marked", "state", "other", "path"] "law" (defScope (top 39)) fa cdv A outer s H E) (WD E) (defBody (top 39)) (b_law Γ) := by
  have nd : (["script", "tape", "kind", "tracks", "machine", "listed", "shape", "sets", "k", "marked", "state", "other", "path"] : List Str).Nodup := s_law.nd
  have hu : (cxOf (L2.CX P w) P w K mg base ["script", "tape", "kind", "tracks", "machine", "listed", "shape", "sets", "k", "marked", "state", "other", "path"] "law" (defScope (top 39)) fa cdv A outer s H E).A.units + 200 < cLine := by
    have := hr.un
    show (A.deeper (envOfC "law" (defScope (top 39)) s.heap.objs.size fa cdv)).units + 200 < cLine
    omega
  have hu1 : (cxOf (L2.CX P w) P w K mg base ["script", "tape", "kind", "tracks", "machine", "listed", "shape", "sets", "k", "marked", "state", "other", "path"] "law" (defScope (top 39)) fa cdv A outer s H E).A.units + 1 < cLine := by omega
  exact (gs_cons (gs_set 1 (ge_fn (F 13 _ _ rfl) hr tk (gan_cons (ge_var 0) gan_nil)) nd)
    (gs_cons (gs_set 2 (ge_fn (F 18 _ _ rfl) hr tk (gan_cons (ge_var 1) gan_nil)) nd)
    (gs_cons (gs_set 3 (ge_fn (F 14 _ _ rfl) hr tk (gan_cons (ge_var 1) (gan_cons ge_int gan_nil))) nd)
    (gs_cons (gs_set 4 (ge_fn (F 26 _ _ rfl) hr tk (gan_cons (ge_var 1) (gan_cons (ge_var 2) (gan_cons (ge_var 3) (gan_cons (ge_bin og_add ge_int (ge_fn (F 14 _ _ rfl) hr tk (gan_cons (ge_var 1) (gan_cons ge_int gan_nil)))) gan_nil))))) nd)
    (gs_cons (gs_set 5 (ge_fn (F 21 _ _ rfl) hr tk (gan_cons (ge_var 2) (gan_cons (ge_var 3) gan_nil))) nd)
    (gs_cons (gs_if (GW.pt (gw_or (gt_not (gt_tru (ge_fn (F 17 _ _ rfl) hr tk (gan_cons (ge_fn (F 2 _ _ rfl) hr tk (gan_cons (ge_var 2) (gan_cons (ge_var 3) gan_nil))) (gan_cons (ge_var 5) gan_nil))))) (gw_or1 (gt_not (gt_cmp og_isB (ge_fn (F 6 _ _ rfl) hr tk (gan_cons (ge_var 4) gan_nil)) ge_bl))))) (gs_cons (gs_ret ge_bl)
    gs_nil) gs_nil)
    (gs_cons (gs_set 6 (ge_fn (F 19 _ _ rfl) hr tk (gan_cons (ge_var 1) (gan_cons (ge_var 2) (gan_cons (ge_fn (F 14 _ _ rfl) hr tk (gan_cons (ge_var 1) (gan_cons ge_int gan_nil))) gan_nil)))) nd)
    (gs_cons (gs_set 7 (ge_lstM ga_nil) nd)
    (gs_cons (gs_for hp rfl (gi_range1 (ge_var 3) fc.f_range) (gg_name 8 nd) (gs_cons (gs_expr (ge_append (ge_var 7) (ge_t1 c1_tuple (ge_lc fin_frozen [("path", 12)] rfl nd (gi_seq (ge_b1 (c1_sorted hu) (ge_fn (F 20 _ _ rfl) hr tk (gan_cons (ge_var 6) (gan_cons (ge_tup ga_nil) gan_nil))) fc.f_sorted)) (fun _ _ _ _ _ => (gc_name 12 nd)) (fun _ _ _ _ _ => (gts_one (gt_cmp (og_eq hu) (ge_fn (F 14 _ _ rfl) hr GH.takes0 (gan_cons (ge_var 1) (gan_cons ge_int gan_nil))) ge_int))) (fun _ _ _ _ _ => (ge_var 12))) fc.f_tuple)))
    gs_nil))
    (gs_cons (gs_set 9 (ge_fn (F 25 _ _ rfl) hr tk (gan_cons (ge_var 6) (gan_cons (ge_tup ga_nil) (gan_cons (ge_var 7) gan_nil)))) nd)
    (gs_cons (gs_if (gt_not (gt_tru (ge_fn (F 17 _ _ rfl) hr tk (gan_cons (ge_fn (F 10 _ _ rfl) hr tk (gan_cons (ge_var 6) (gan_cons (ge_var 7) gan_nil))) (gan_cons (ge_var 9) gan_nil))))) (gs_cons (gs_ret ge_bl)
    gs_nil) gs_nil)
    (gs_cons (gs_set 10 (ge_fn (F 23 _ _ rfl) hr tk (gan_cons (ge_var 4) (gan_cons (ge_var 9) (gan_cons (ge_fn (F 24 _ _ rfl) hr tk (gan_cons (ge_var 2) (gan_cons (ge_var 3) gan_nil))) gan_nil)))) nd)
    (gs_cons (gs_if (GW.pt (gw_or (gt_not (gt_tru (ge_fn (F 17 _ _ rfl) hr tk (gan_cons (ge_fn (F 8 _ _ rfl) hr tk (gan_cons (ge_var 4) (gan_cons (ge_var 9) gan_nil))) (gan_cons (ge_var 10) gan_nil))))) (gw_or1 (gt_not (gt_tru (ge_fn (F 17 _ _ rfl) hr tk (gan_cons (ge_fn (F 9 _ _ rfl) hr tk (gan_cons (ge_var 4) (gan_cons (ge_var 9) gan_nil))) (gan_cons (ge_ix hu1 (ge_ix hu1 (ge_var 4) ge_int) (ge_var 10)) gan_nil)))))))) (gs_cons (gs_ret ge_bl)
    gs_nil) gs_nil)
    (gs_cons (gs_set 11 (ge_fn (F 29 _ _ rfl) hr tk (gan_cons (ge_var 1) (gan_cons (ge_var 4) gan_nil))) nd)
    (gs_cons (gs_ret (ge_fn (F 17 _ _ rfl) hr tk (gan_cons (ge_fn (F 6 _ _ rfl) hr tk (gan_cons (ge_var 11) gan_nil)) (gan_cons (ge_fn (F 28 _ _ rfl) hr tk (gan_cons (ge_var 11) gan_nil)) gan_nil))))
    gs_nil)))))))))))))))
theorem k_law {fd : FuncData} (F : AllK P w K mg base sig k Γ) (hwW : w = TheWorld.w) (fc : Fc K mg) (U : FnP K "law" 39 fd) : FnOk P w K mg base (L2.CX P w) (k + 1) (He.ga K "law") fd ["script"] (spG K (d_law Γ) 1) :=
  fn_G (k := k) U s_law (fun args h _ => .inl rfl) fun cdv A outer s H E hr hp tk => w_law F hwW fc hr hp tk
end
end L07
set_option Elab.async false
set_option linter.all false
set_option maxRecDepth 100000
set_option maxHeartbeats 1000000
set_option autoImplicit false
namespace L07
open GH
variable [TheWorld]
/-! kinds, marks, signs, shapes. -/
theorem take_l {k : Nat} {m : Int} {o : Ob} {g : Hv} {P : Val → Hv → Prop} (ho : TapeOb o) (hm : 0 < m) (hm2 : m < 1073741824)
    (kk : ∀ r o', 0 ≤ r → r < m → TapeOb o' → P (.int r) (o' :: g)) : ok (lev D (k + 1) 14 [.ref 0, .int m] (o :: g)) P := take_sp hm hm2 ho kk
abbrev lbs (cs : List Nat) : List Val := cs.map fun c => .str [c]
abbrev kv (n : Int) (cs : List Nat) : Val := .tup [.int n, .tup (lbs cs)]
def KS : List (List Nat) := [[97], [97, 98], [98, 100, 122]]
theorem KS_len {cs : List Nat} (h : cs ∈ KS) : 1 ≤ cs.length ∧ cs.length ≤ 3 ∧ (∀ c ∈ cs, 97 ≤ c ∧ c ≤ 122) ∧ cs.Nodup := by
  simp only [KS, List.mem_cons, List.not_mem_nil, or_false] at h
  rcases h with rfl | rfl | rfl <;> decide
theorem kind_sp {k : Nat} {o : Ob} {g : Hv} {P : Val → Hv → Prop} (ho : TapeOb o) (kk : ∀ (n : Int) (cs : List Nat) o', (n = 1 ∨ n = 2) → cs ∈ KS → TapeOb o' → P (kv n cs) (o' :: g)) :
    ok (lev D (k + 2) 18 [.ref 0] (o :: g)) P := by
  show ok (runDef 2 (b__law_kind (lev D (k + 1))) [.ref 0] (o :: g)) P
  rw [ok_run]
  refine sok_seq (fun l h => ∃ (cs : List Nat) (o' : Ob), cs ∈ KS ∧ TapeOb o' ∧ l = [some (.ref 0), some (.tup (lbs cs))] ∧ h = o' :: g) ?_ ?_
  · simp [dVar, mkT_ok]
    refine take_l ho (by omega) (by omega) fun r o' h0 h1 ho' => ?_
    obtain rfl | rfl | rfl | rfl : r = 0 ∨ r = 1 ∨ r = 2 ∨ r = 3 := by omega
    · rw [vIx_tup (v := .tup [.str [97]]) rfl]; exact ⟨[97], by decide, o', ho', rfl, rfl⟩
    · rw [vIx_tup (v := .tup [.str [97], .str [98]]) rfl]; exact ⟨[97, 98], by decide, o', ho', rfl, rfl⟩
    · rw [vIx_tup (v := .tup [.str [97], .str [98]]) rfl]; exact ⟨[97, 98], by decide, o', ho', rfl, rfl⟩
    · rw [vIx_tup (v := .tup [.str [98], .str [100], .str [122]]) rfl]; exact ⟨[98, 100, 122], by decide, o', ho', rfl, rfl⟩
  · rintro l h ⟨cs, o', h1, h3, rfl, rfl⟩
    simp [dVar, mkT_ok]
    refine take_l h3 (by omega) (by omega) fun r o'' h0 h4 ho' => ?_
    simp [vDiv_ok _ (show (0 : Int) < 3 by omega) (show (3 : Int) < 1073741824 by omega)]
    exact kk _ cs o'' (by omega) h1 ho'
/-! marks and signs -/
def mk1 (L : List (List Nat)) : List (List Nat) := L.flatMap fun m => [m ++ [0], m ++ [1]]
def marks : Nat → List (List Nat)
  | 0 => [[]]
  | t + 1 => mk1 (marks t)
theorem mk1_len (L : List (List Nat)) : (mk1 L).length = 2 * L.length := by
  induction L with
  | nil => rfl
  | cons m L ih => simp only [mk1, List.flatMap_cons, List.length_append, List.length_cons, List.length_nil] at ih ⊢; omega
theorem marks_len : ∀ t, (marks t).length = 2 ^ t
  | 0 => rfl
  | t + 1 => by rw [marks, mk1_len, marks_len t, Nat.pow_succ]; omega
theorem marks_one : ∀ t, ∀ m ∈ marks t, m.length = t
  | 0, m, h => by rw [List.mem_singleton.mp h]; rfl
  | t + 1, m, h => by
    obtain ⟨m0, h0, h1⟩ := List.mem_flatMap.mp h
    have := marks_one t m0 h0
    simp at h1
    rcases h1 with rfl | rfl <;> simp [this]
abbrev bv (m : List Nat) : Val := .tup (m.map fun b : Nat => .int b)
abbrev sv (p : Nat × List Nat) : Val := .tup [.str [p.1], bv p.2]
def sg (cs : List Nat) (t : Nat) : List (Nat × List Nat) := cs.flatMap fun c => (marks t).map fun m => (c, m)
theorem sg_len (cs : List Nat) (t : Nat) : (sg cs t).length = cs.length * 2 ^ t := by
  induction cs with
  | nil => simp [sg]
  | cons c cs ih => simp only [sg, List.flatMap_cons, List.length_append, List.length_map, List.length_cons, marks_len] at ih ⊢; rw [ih, Nat.succ_mul]; omega
theorem pow_le {t : Nat} (h : t ≤ 6) : 2 ^ t ≤ 64 := Nat.pow_le_pow_right (by omega) h
theorem bv_snoc (m : List Nat) (b : Nat) (hm : m.length ≤ 100) (h : Hv) : vAdd (bv m) (.tup [.int b]) h = .ok (bv (m ++ [b])) h := by
  rw [add_tup (by simp; omega)]
  simp
end L07
set_option Elab.async false
set_option linter.all false
set_option maxRecDepth 100000
set_option maxHeartbeats 1000000
set_option autoImplicit false
namespace L07
open GH
variable [TheWorld]
/-! the lists of marks and of signs -/
def two (v : Val) : List Val := match v with
  | .tup l => [.tup (l ++ [.int 0]), .tup (l ++ [.int 1])]
  | _ => []
theorem two_map (L : List (List Nat)) : (L.map bv).flatMap two = (mk1 L).map bv := by
  induction L with
  | nil => rfl
  | cons m L ih => simp only [List.map_cons, List.flatMap_cons, ih, mk1, List.map_append, two]; simp
noncomputable abbrev amE : Den := dLc2 frozen [3, 4] [4] (iSeq (dVar 1)) (gName 3) dYes (iSeq (dTup (dCons (dC (.int 0)) (dCons (dC (.int 1)) dNil)))) (gName 4) dYes (dBin vAdd (dVar 3) (dTup (dCons (dVar 4) dNil)))
theorem am_in {l : GH.Loc} {m : List Nat} {h : Hv} {b : Nat} (hm : m.length ≤ 100) (hl : l.length = 5) (h3 : l[3]? = some (some (bv m))) : dBin vAdd (dVar 3) (dTup (dCons (dVar 4) dNil)) (l.set 4 (some (.int b))) h = .ok (bv (m ++ [b])) h := by
  have e3 : (l.set 4 (some (Val.int b)))[3]? = some (some (bv m)) := by rw [List.getElem?_set_ne (by decide)]; exact h3
  have e4 : (l.set 4 (some (Val.int b)))[4]? = some (some (.int b)) := by rw [List.getElem?_set_self (by omega)]
  rw [e_bin, dv e3, Res.bind_ok, e_tup, e_cons, dv e4, Res.bind_ok, e_nil, Res.bind_ok, Res.bind_ok, mkT_ok (by simp), Res.bind_ok]
  exact bv_snoc m b hm h
theorem am_eq {L : List (List Nat)} {a : Val} {x y z : Option Val} {h : Hv} (hL : L.length ≤ 1000) (hm : ∀ m ∈ L, m.length ≤ 100) : amE [some a, some (.lst (L.map bv)), x, y, z] h = .ok (.lst ((mk1 L).map bv)) h := by
  have e1 : iSeq (dVar 1) [some a, some (.lst (L.map bv)), x, y, z] h = .ok (L.map bv, none) h := rfl
  unfold amE dLc2
  rw [e1, Res.bind_ok]
  show (lc2L _ _ _ _ _ _ _ _ (L.map bv) [] [some a, some (.lst (L.map bv)), x, none, none] h).bind frozen = _
  rw [lc2L_map two (srcOk_none _ _) (L.map bv) [] ?_ ?_, Res.bind_ok, two_map, List.nil_append]
  · rfl
  · intro v hv
    obtain ⟨m, hm0, rfl⟩ := List.mem_map.mp hv
    refine ⟨[some a, some (.lst (L.map bv)), x, some (bv m), none], ([.int 0, .int 1], none), rfl, ?_, fun acc n => ?_⟩
    · rw [e_iseq, e_tup, e_cons, e_c, Res.bind_ok, e_cons, e_c, Res.bind_ok, e_nil, Res.bind_ok, Res.bind_ok, Res.bind_ok, mkT_ok (by simp), Res.bind_ok, vIter_tup]
    · have n : acc.length + 2 ≤ 16777216 := n
      have q := lcB_map (t := gName 4) (e := dBin vAdd (dVar 3) (dTup (dCons (dVar 4) dNil))) (l := [some a, some (.lst (L.map bv)), x, some (bv m), none]) (fun v => match v with | .int b => bv (m ++ [b.toNat]) | _ => .non) (srcOk_none [.int 0, .int 1] h) [.int 0, .int 1] acc (fun v hv => by
        simp only [List.mem_cons, List.not_mem_nil, or_false] at hv
        rcases hv with rfl | rfl
        · exact ⟨_, rfl, am_in (b := 0) (hm m hm0) rfl rfl⟩
        · exact ⟨_, rfl, am_in (b := 1) (hm m hm0) rfl rfl⟩) (by simp; omega)
      refine (show lcB _ _ _ _ _ _ [some a, some (.lst (L.map bv)), x, some (bv m), none] h = _ from q).trans ?_
      simp [two]
  · rw [two_map, List.length_map, List.length_nil, mk1_len]; omega
theorem marks_eq {k t : Nat} {h : Hv} (ht : t ≤ 6) : lev D (k + 1) 1 [.int t] h = .ok (.lst ((marks t).map bv)) h := by
  show runDef 5 (b_all_marks (lev D k)) [.int t] h = _
  refine run_rt ?_
  show b_all_marks (lev D k) [some (.int t), none, none, none, none] h = _
  unfold b_all_marks
  rw [set_eq (v := .lst ((marks 0).map bv)) (h1 := h) (by rw [e_lst, e_cons, e_tup, e_nil, Res.bind_ok, mkT_ok (by simp), Res.bind_ok, e_nil, Res.bind_ok, Res.bind_ok, mkL_ok (by simp)]; rfl)]
  show sSeq _ _ [some (.int t), some (.lst ((marks 0).map bv)), none, none, none] h = _
  rw [for_eq (it := (List.range t).map fun j : Nat => Val.int j) (h1 := h) (by rw [e_rng1, dv rfl, Res.bind_ok, rng1_eq (by omega)])]
  obtain ⟨l', h', e, x, y, z, rfl, rfl⟩ := for_ind (t := gName 2) (b := sSeq (sAsg amE (gName 1)) sNext) (it := (List.range t).map fun j : Nat => Val.int j) (fun j : Nat => Val.int j) (fun p l h' => ∃ x y z, l = [some (.int t), some (.lst ((marks p.length).map bv)), x, y, z] ∧ h' = h)
    (List.range t) [] [some (.int t), some (.lst ((marks 0).map bv)), none, none, none] h ⟨_, _, _, rfl, rfl⟩ (by
      rintro p j q l h0 e ⟨x, y, z, rfl, rfl⟩
      have hp : p.length < t := by
        have := congrArg List.length e
        simp at this
        omega
      refine ⟨_, _, [some (.int t), some (.lst ((marks (p.length + 1)).map bv)), some (.int j), y, z], h0, rfl, ?_, _, _, _, by rw [List.length_append]; rfl, rfl⟩
      have hq : (marks p.length).length ≤ 1000 := by rw [marks_len]; have := pow_le (show p.length ≤ 6 by omega); omega
      exact set_eq (am_eq hq fun m hm => by rw [marks_one _ m hm]; omega))
  rw [e, List.nil_append, List.length_range, SRes.andThen_nx]
  exact ret_eq (dv rfl)
end L07
set_option Elab.async false
set_option linter.all false
set_option maxRecDepth 100000
set_option maxHeartbeats 1000000
set_option autoImplicit false
namespace L07
open GH
variable [TheWorld]
def chOf (v : Val) : Nat := match v with
  | .str [c] => c
  | _ => 0
theorem sg_flat (cs : List Nat) (t : Nat) : (lbs cs).flatMap (fun v => (marks t).map fun m => sv (chOf v, m)) = (sg cs t).map sv := by
  induction cs with
  | nil => rfl
  | cons c cs ih => simp only [lbs, List.map_cons, List.flatMap_cons, sg, List.map_append] at ih ⊢; rw [ih]; simp [chOf]
theorem sg_small {cs : List Nat} {t : Nat} (hc : cs.length ≤ 10) (ht : t ≤ 6) : (sg cs t).length ≤ 640 := by
  rw [sg_len]
  have := pow_le ht
  exact Nat.le_trans (Nat.mul_le_mul hc this) (by omega)
theorem signs_eq {k t : Nat} {n : Int} {cs : List Nat} {h : Hv} (hc : cs.length ≤ 10) (ht : t ≤ 6) : lev D (k + 2) 2 [kv n cs, .int t] h = .ok (.lst ((sg cs t).map sv)) h := by
  show runDef 4 (b_signs (lev D (k + 1))) [kv n cs, .int t] h = _
  refine run_rt ?_
  show b_signs (lev D (k + 1)) [some (kv n cs), some (.int t), none, none] h = _
  unfold b_signs
  refine ret_eq ?_
  unfold dLc2
  rw [show iSeq (dBin vIx (dVar 0) (dC (.int 1))) [some (kv n cs), some (.int t), none, none] h = .ok (lbs cs, none) h by rw [e_iseq, e_bin, dv rfl, Res.bind_ok, e_c, Res.bind_ok, t1, Res.bind_ok, vIter_tup], Res.bind_ok]
  show (lc2L _ _ _ _ _ _ _ _ (lbs cs) [] [some (kv n cs), some (.int t), none, none] h).bind frozen = _
  rw [lc2L_map (fun v => (marks t).map fun m => sv (chOf v, m)) (srcOk_none _ _) (lbs cs) [] ?_ ?_, Res.bind_ok, sg_flat, List.nil_append]
  · rfl
  · intro v hv
    obtain ⟨c, hc0, rfl⟩ := List.mem_map.mp hv
    refine ⟨[some (kv n cs), some (.int t), some (.str [c]), none], ((marks t).map bv, none), rfl, ?_, fun acc n1 => ?_⟩
    · rw [e_iseq, e_call, e_cons, dv rfl, Res.bind_ok, e_nil, Res.bind_ok, Res.bind_ok, marks_eq ht, Res.bind_ok, vIter_lst]
    · have q := lcB_map (t := gName 3) (e := dTup (dCons (dVar 2) (dCons (dVar 3) dNil))) (l := [some (kv n cs), some (.int t), some (.str [c]), none]) (h := h) (fun v => .tup [.str [c], v]) (srcOk_none ((marks t).map bv) h) ((marks t).map bv) acc (fun v hv => ⟨[some (kv n cs), some (.int t), some (.str [c]), some v], rfl, by
        rw [e_tup, e_cons, dv rfl, Res.bind_ok, e_cons, dv rfl, Res.bind_ok, e_nil, Res.bind_ok, Res.bind_ok, Res.bind_ok, mkT_ok (by simp)]⟩) (by simpa using n1)
      refine (show lcB _ _ _ _ _ _ [some (kv n cs), some (.int t), some (.str [c]), none] h = _ from q).trans ?_
      rw [List.map_map]
      rfl
  · rw [sg_flat, List.length_map, List.length_nil]; have := sg_small hc ht; omega
/-! the law's own -/
noncomputable abbrev lsA : Stm := (sSeq (sAsg (dBin vAdd (dVar 6) (dLst (dCons (dBin vAdd (dVar 7) (dTup (dCons (dC (.int 0)) dNil))) (dCons (dBin vAdd (dVar 7) (dTup (dCons (dC (.int 1)) dNil))) dNil)))) (gName 6)) sNext)
noncomputable abbrev lsB : Stm := (sSeq (sAsg (dLst dNil) (gName 6)) (sSeq (sFor (iSeq (dVar 2)) (gName 7) lsA) (sSeq (sAsg (dVar 6) (gName 2)) sNext)))
noncomputable abbrev lsC : Stm := (sSeq (sAsg (dBin vAdd (dVar 4) (dLc frozen [7] (iSeq (dVar 2)) (gName 7) dYes (dTup (dCons (dVar 5) (dCons (dVar 7) dNil))))) (gName 4)) sNext)
theorem lsA_eq {a b c d e f : Option Val} {X : List (List Nat)} {m : List Nat} {h : Hv} (hm : m.length ≤ 100) (hX : X.length ≤ 1000) : lsA [a, b, c, d, e, f, some (.lst (X.map bv)), some (bv m)] h = .nx [a, b, c, d, e, f, some (.lst ((X ++ [m ++ [0], m ++ [1]]).map bv)), some (bv m)] h := by
  refine set_eq ?_
  rw [e_bin, dv rfl, Res.bind_ok, e_lst, e_cons, e_bin, dv rfl, Res.bind_ok, e_tup, e_cons, e_c, Res.bind_ok, e_nil, Res.bind_ok, Res.bind_ok, mkT_ok (by simp), Res.bind_ok, show vAdd (bv m) (.tup [.int 0]) h = .ok (bv (m ++ [0])) h from bv_snoc m 0 hm h, Res.bind_ok,
    e_cons, e_bin, dv rfl, Res.bind_ok, e_tup, e_cons, e_c, Res.bind_ok, e_nil, Res.bind_ok, Res.bind_ok, mkT_ok (by simp), Res.bind_ok, show vAdd (bv m) (.tup [.int 1]) h = .ok (bv (m ++ [1])) h from bv_snoc m 1 hm h, Res.bind_ok, e_nil, Res.bind_ok, Res.bind_ok, Res.bind_ok, mkL_ok (by simp), Res.bind_ok, add_lst (by simp; omega)]
  simp
theorem lsB_eq {a b d e f y x : Option Val} {L : List (List Nat)} {h : Hv} (hm : ∀ m ∈ L, m.length ≤ 100) (hL : L.length ≤ 100) : ∃ y' z', lsB [a, b, some (.lst (L.map bv)), d, e, f, x, y] h = .nx [a, b, some (.lst ((mk1 L).map bv)), d, e, f, y', z'] h := by
  unfold lsB
  rw [set_eq (v := .lst []) (h1 := h) (by rw [e_lst, e_nil, Res.bind_ok, mkL_ok (by simp)])]
  show ∃ y' z', sSeq _ _ [a, b, some (.lst (L.map bv)), d, e, f, some (.lst []), y] h = _
  rw [for_eq (it := L.map bv) (h1 := h) rfl]
  obtain ⟨l', h', e1, z, rfl, rfl⟩ := for_ind (t := gName 7) (b := lsA) (it := L.map bv) bv (fun p l h' => ∃ z, l = [a, b, some (.lst (L.map bv)), d, e, f, some (.lst ((mk1 p).map bv)), z] ∧ h' = h)
    L [] [a, b, some (.lst (L.map bv)), d, e, f, some (.lst []), y] h ⟨_, rfl, rfl⟩ (by
      rintro p m q l h0 e0 ⟨z, rfl, rfl⟩
      have e0 : L = p ++ m :: q := e0
      have hp : p.length < L.length := by rw [e0]; simp
      refine ⟨_, _, _, h0, rfl, lsA_eq (hm m (by rw [e0]; simp)) (by rw [mk1_len]; omega), some (bv m), ?_, rfl⟩
      simp [mk1])
  rw [e1, List.nil_append, SRes.andThen_nx]
  exact ⟨_, _, set_eq (dv rfl)⟩
theorem lsigns_eq {k t : Nat} {n : Int} {cs : List Nat} {h : Hv} (hc : cs.length ≤ 10) (ht : t ≤ 6) : lev D (k + 1) 21 [kv n cs, .int t] h = .ok (.lst ((sg cs t).map sv)) h := by
  show runDef 8 (b__law_signs (lev D k)) [kv n cs, .int t] h = _
  refine run_rt ?_
  show b__law_signs (lev D k) [some (kv n cs), some (.int t), none, none, none, none, none, none] h = _
  unfold b__law_signs
  rw [set_eq (v := .lst ((marks 0).map bv)) (h1 := h) (by rw [e_lst, e_cons, e_tup, e_nil, Res.bind_ok, mkT_ok (by simp), Res.bind_ok, e_nil, Res.bind_ok, Res.bind_ok, mkL_ok (by simp)]; rfl)]
  show sSeq _ _ [some (kv n cs), some (.int t), some (.lst ((marks 0).map bv)), none, none, none, none, none] h = _
  rw [for_eq (it := (List.range t).map fun j : Nat => Val.int j) (h1 := h) (by rw [e_rng1, dv rfl, Res.bind_ok, rng1_eq (by omega)])]
  obtain ⟨l', h', e, w, x, y, rfl, rfl⟩ := for_ind (t := gName 3) (b := lsB) (it := (List.range t).map fun j : Nat => Val.int j) (fun j : Nat => Val.int j) (fun p l h' => ∃ w x y, l = [some (kv n cs), some (.int t), some (.lst ((marks p.length).map bv)), w, none, none, x, y] ∧ h' = h)
    (List.range t) [] [some (kv n cs), some (.int t), some (.lst ((marks 0).map bv)), none, none, none, none, none] h ⟨_, _, _, rfl, rfl⟩ (by
      rintro p j q l h0 e ⟨w, x, y, rfl, rfl⟩
      have hp : p.length < t := by
        have := congrArg List.length e
        simp at this
        omega
      have hq : (marks p.length).length ≤ 100 := by rw [marks_len]; have := pow_le (show p.length ≤ 6 by omega); omega
      obtain ⟨y', z', e2⟩ := lsB_eq (a := some (kv n cs)) (b := some (.int t)) (d := some (.int j)) (e := none) (f := none) (x := x) (y := y) (h := h0) (fun m hm => by rw [marks_one _ m hm]; omega) hq
      exact ⟨_, _, _, h0, rfl, e2, _, _, _, by rw [List.length_append]; rfl, rfl⟩)
  rw [e, List.nil_append, List.length_range, SRes.andThen_nx]
  rw [set_eq (v := .lst []) (h1 := h') (by rw [e_lst, e_nil, Res.bind_ok, mkL_ok (by simp)])]
  show sSeq _ _ [some (kv n cs), some (.int t), some (.lst ((marks t).map bv)), w, some (.lst []), none, x, y] h' = _
  rw [for_eq (it := lbs cs) (h1 := h') (by rw [e_iseq, e_bin, dv rfl, Res.bind_ok, e_c, Res.bind_ok, t1, Res.bind_ok, vIter_tup])]
  obtain ⟨l', h1, e, w', y', rfl, rfl⟩ := for_ind (t := gName 5) (b := lsC) (it := lbs cs) (fun c : Nat => Val.str [c]) (fun p l h1 => ∃ w' y', l = [some (kv n cs), some (.int t), some (.lst ((marks t).map bv)), w, some (.lst ((sg p t).map sv)), w', x, y'] ∧ h1 = h')
    cs [] [some (kv n cs), some (.int t), some (.lst ((marks t).map bv)), w, some (.lst []), none, x, y] h' ⟨_, _, rfl, rfl⟩ (by
      rintro p c q l h0 e3 ⟨w', y', rfl, rfl⟩
      have hp : p.length < cs.length := by rw [show cs = p ++ c :: q from e3]; simp
      refine ⟨_, _, [some (kv n cs), some (.int t), some (.lst ((marks t).map bv)), w, some (.lst ((sg (p ++ [c]) t).map sv)), some (.str [c]), x, y'], h0, rfl, ?_, _, _, rfl, rfl⟩
      have e2 : dLc frozen [7] (iSeq (dVar 2)) (gName 7) dYes (dTup (dCons (dVar 5) (dCons (dVar 7) dNil))) [some (kv n cs), some (.int t), some (.lst ((marks t).map bv)), w, some (.lst ((sg p t).map sv)), some (.str [c]), x, y'] h0 = .ok (.lst ((marks t).map fun m => sv (c, m))) h0 := by
        refine dlc_eq bv (fun m => sv (c, m)) (marks t) rfl fun m hm => ⟨[some (kv n cs), some (.int t), some (.lst ((marks t).map bv)), w, some (.lst ((sg p t).map sv)), some (.str [c]), x, some (bv m)], rfl, ?_⟩
        rw [e_tup, e_cons, dv rfl, Res.bind_ok, e_cons, dv rfl, Res.bind_ok, e_nil, Res.bind_ok, Res.bind_ok, Res.bind_ok, mkT_ok (by simp)]
      refine set_eq ?_
      rw [e_bin, dv rfl, Res.bind_ok]
      refine (congrArg (fun r => Res.bind r _) e2).trans ?_
      rw [Res.bind_ok, add_lst (by rw [List.length_map, List.length_map, marks_len]; have := sg_small (cs := p) (t := t) (by omega) ht; have := pow_le ht; omega)]
      simp [sg])
  rw [e, List.nil_append, SRes.andThen_nx]
  exact ret_eq (dv rfl)
end L07
set_option Elab.async false
set_option linter.all false
set_option maxRecDepth 100000
set_option maxHeartbeats 1000000
set_option autoImplicit false
namespace L07
open GH PySem
variable [TheWorld]
/-! the rows by their signs -/
theorem depth_nums : ∀ L : List Int, NestedKey.depthAll (L.map .num) ≤ 1
  | [] => by simp [NestedKey.depthAll]
  | i :: L => by simp only [List.map_cons, NestedKey.depthAll, NestedKey.depth]; have := depth_nums L; omega
theorem bv_pv (m : List Nat) : bv m = pv (m.map fun b : Nat => (b : Int)) := by simp [pv]
theorem keyN_sv (p : Nat × List Nat) : keyN (sv p) = some (.tup [.text (sOf [p.1]), .tup ((p.2.map fun b : Nat => (b : Int)).map .num)]) := by
  show (keysN [.str [p.1], bv p.2]).map _ = _
  rw [bv_pv]
  simp only [keysN, keyN, keysN_ints, Option.bind_some, Option.map_some, pv]
theorem keyOk_sv (p : Nat × List Nat) : keyOk (sv p) = true := by
  have := keyN_sv p
  unfold keyOk
  simp only [sv] at this ⊢
  rw [this]
  simp only [NestedKey.depth, NestedKey.depthAll]
  have := depth_nums (p.2.map fun b : Nat => (b : Int))
  exact decide_eq_true (by omega)
theorem kEqN_sv (p q : Nat × List Nat) : kEqN (sv p) (sv q) = decide (p = q) := by
  unfold kEqN
  rw [keyN_sv, keyN_sv]
  refine decide_eq_decide.mpr ⟨fun e => ?_, fun e => by rw [e]⟩
  injection e with e
  injection e with e
  injection e with e1 e2
  injection e1 with e1
  injection e2 with e2 _
  injection e2 with e2
  have h1 : p.1 = q.1 := by
    have := sOf_inj e1
    simpa using this
  have h2 : p.2 = q.2 := by
    have := num_inj e2
    exact List.map_inj_right (fun a b e => by exact_mod_cast e) |>.mp this
  exact Prod.ext h1 h2
theorem snoc_ind {α : Type} {P : List α → Prop} (n : P []) (c : ∀ L x, P L → P (L ++ [x])) (L : List α) : P L := by
  have q : ∀ M : List α, P M.reverse := by
    intro M
    induction M with
    | nil => exact n
    | cons x M ih => rw [List.reverse_cons]; exact c _ x ih
  have := q L.reverse
  rwa [List.reverse_reverse] at this
/-- the last place of a sign in a list -/
def lix (L : List (Nat × List Nat)) (x : Nat × List Nat) : Option Nat := L.zipIdx.foldl (fun a p => if p.1 = x then some p.2 else a) none
theorem lix_snoc (L : List (Nat × List Nat)) (p x : Nat × List Nat) : lix (L ++ [p]) x = if p = x then some L.length else lix L x := by
  unfold lix
  rw [List.zipIdx_append, List.foldl_append]
  simp
theorem lix_ok {x : Nat × List Nat} : ∀ {L : List (Nat × List Nat)}, x ∈ L → ∃ i, lix L x = some i ∧ i < L.length := by
  intro L
  refine snoc_ind (P := fun L => x ∈ L → ∃ i, lix L x = some i ∧ i < L.length) (fun h => by cases h) (fun L p ih => ?_) L
  · intro h
    rw [lix_snoc]
    by_cases c : p = x
    · exact ⟨L.length, by rw [if_pos c], by simp⟩
    · rw [if_neg c]
      rcases List.mem_append.mp h with h | h
      · obtain ⟨i, e, l⟩ := ih h
        exact ⟨i, e, by simp; omega⟩
      · exact absurd (List.mem_singleton.mp h).symm c
/-- a dict of the rows of some signs -/
structure RD (L : List (Nat × List Nat)) (l : List (Val × Val)) : Prop where
  get : ∀ x, dGetN l (sv x) = (lix L x).map fun i : Nat => Val.int i
  len : l.length ≤ L.length
theorem RD.nil : RD [] [] := ⟨fun x => rfl, Nat.le_refl _⟩
theorem RD.put {L : List (Nat × List Nat)} {l : List (Val × Val)} (r : RD L l) (p : Nat × List Nat) : RD (L ++ [p]) (dPutN l (sv p) (.int L.length)) := by
  refine ⟨fun x => ?_, ?_⟩
  · rw [dGetN_put, kEqN_sv, lix_snoc, r.get]
    by_cases c : p = x <;> simp [c]
  · have := dPutN_len l (sv p) (.int L.length)
    have := r.len
    simp
    omega
theorem RD.all : ∀ L : List (Nat × List Nat), RD L (L.zipIdx.foldl (fun a p => dPutN a (sv p.1) (.int (p.2 : Nat))) []) := by
  refine snoc_ind (P := fun L => RD L (L.zipIdx.foldl (fun a p => dPutN a (sv p.1) (.int (p.2 : Nat))) [])) RD.nil fun L p ih => ?_
  · rw [List.zipIdx_append, List.foldl_append]
    simpa using ih.put p
theorem rbs_eq {k t : Nat} {n : Int} {cs : List Nat} {h : Hv} (hc : cs.length ≤ 10) (ht : t ≤ 6) : ∃ l, RD (sg cs t) l ∧ lev D (k + 3) 12 [kv n cs, .int t] h = .ok (.ref h.length) (h ++ [.dn l]) := by
  refine ⟨_, RD.all (sg cs t), ?_⟩
  show runDef 4 (b_rows_by_sign (lev D (k + 2))) [kv n cs, .int t] h = _
  refine run_rt ?_
  show b_rows_by_sign (lev D (k + 2)) [some (kv n cs), some (.int t), none, none] h = _
  unfold b_rows_by_sign
  refine ret_eq ?_
  refine dcN_eq (fun p : (Nat × List Nat) × Nat => .tup [.int (p.2 : Nat), sv p.1]) (fun p => sv p.1) (fun p => .int (p.2 : Nat)) ((sg cs t).zipIdx) ?_ fun p hp => ⟨[some (kv n cs), some (.int t), some (.int p.2), some (sv p.1)], rfl, dv rfl, dv rfl, keyOk_sv _⟩
  rw [e_enum, e_call, e_cons, dv rfl, Res.bind_ok, e_cons, dv rfl, Res.bind_ok, e_nil, Res.bind_ok, Res.bind_ok, Res.bind_ok, signs_eq hc ht, Res.bind_ok]
  show Res.ok (enumL ((sg cs t).map sv), none) h = _
  rw [enum_map]
theorem lrows_eq {k t : Nat} {n : Int} {cs : List Nat} {h : Hv} (hc : cs.length ≤ 10) (ht : t ≤ 6) : ∃ l, RD (sg cs t) l ∧ lev D (k + 2) 24 [kv n cs, .int t] h = .ok (.ref h.length) (h ++ [.dn l]) := by
  have sm := sg_small hc ht
  have big : ∀ (a b c d e : Option Val), b__law_rows (lev D (k + 1)) [some (kv n cs), some (.int t), none, none, none] h = b__law_rows (lev D (k + 1)) [some (kv n cs), some (.int t), none, none, none] h := fun _ _ _ _ _ => rfl
  suffices q : ∃ l, RD (sg cs t) l ∧ b__law_rows (lev D (k + 1)) [some (kv n cs), some (.int t), none, none, none] h = .rt (.ref h.length) (h ++ [.dn l]) by
    obtain ⟨l, r, e⟩ := q
    exact ⟨l, r, show runDef 5 (b__law_rows (lev D (k + 1))) [kv n cs, .int t] h = _ from run_rt e⟩
  unfold b__law_rows
  rw [set_eq (v := .lst ((sg cs t).map sv)) (h1 := h) (by rw [e_call, e_cons, dv rfl, Res.bind_ok, e_cons, dv rfl, Res.bind_ok, e_nil, Res.bind_ok, Res.bind_ok, Res.bind_ok, lsigns_eq hc ht])]
  show ∃ l, _ ∧ sSeq _ _ [some (kv n cs), some (.int t), some (.lst ((sg cs t).map sv)), none, none] h = _
  rw [set_eq (v := .ref h.length) (h1 := h ++ [.dn []]) rfl]
  show ∃ l, _ ∧ sSeq _ _ [some (kv n cs), some (.int t), some (.lst ((sg cs t).map sv)), some (.ref h.length), none] (h ++ [.dn []]) = _
  rw [for_eq (it := (List.range (sg cs t).length).map fun j : Nat => Val.int j) (h1 := h ++ [.dn []]) (by rw [e_rng1, e_len, dv rfl, Res.bind_ok, vLen_lst, Res.bind_ok, List.length_map, rng1_eq (by omega)])]
  obtain ⟨l', h', e, ⟨z, rfl⟩, l, rl, rfl⟩ := for_ind (t := gName 4) (b := (sSeq (sAsg (dVar 4) (gSubN (dVar 3) (dBin vIx (dVar 2) (dVar 4)))) sNext)) (it := (List.range (sg cs t).length).map fun j : Nat => Val.int j) (fun j : Nat => Val.int j)
    (fun p l h' => (∃ z, l = [some (kv n cs), some (.int t), some (.lst ((sg cs t).map sv)), some (.ref h.length), z]) ∧ ∃ l, RD ((sg cs t).take p.length) l ∧ h' = h ++ [.dn l])
    (List.range (sg cs t).length) [] [some (kv n cs), some (.int t), some (.lst ((sg cs t).map sv)), some (.ref h.length), none] (h ++ [.dn []]) ⟨⟨_, rfl⟩, [], RD.nil, rfl⟩ (by
      rintro p j q l h0 e ⟨⟨z, rfl⟩, l, rl, rfl⟩
      have e : List.range (sg cs t).length = p ++ j :: q := e
      have hp : p.length < (sg cs t).length := by
        have := congrArg List.length e
        simp at this
        omega
      have hj : j = p.length := by
        have q1 : (List.range (sg cs t).length)[p.length]? = some j := by rw [e]; simp
        rw [List.getElem?_range hp] at q1
        exact (Option.some.inj q1).symm
      subst hj
      obtain ⟨x, hx⟩ : ∃ x, (sg cs t)[p.length]? = some x := ⟨_, List.getElem?_eq_getElem hp⟩
      have at_ : (h ++ [Ob.dn l])[h.length]? = some (.dn l) := by simp
      have lenl : l.length ≤ p.length := by have := rl.len; rw [List.length_take] at this; omega
      refine ⟨[some (kv n cs), some (.int t), some (.lst ((sg cs t).map sv)), some (.ref h.length), some (.int p.length)], _, [some (kv n cs), some (.int t), some (.lst ((sg cs t).map sv)), some (.ref h.length), some (.int p.length)], h ++ [.dn (dPutN l (sv x) (.int p.length))], rfl, ?_, ⟨_, rfl⟩, _, ?_, rfl⟩
      · have e1 : dVar 4 [some (kv n cs), some (Val.int t), some (.lst ((sg cs t).map sv)), some (.ref h.length), some (.int p.length)] (h ++ [Ob.dn l]) = .ok (.int p.length) (h ++ [Ob.dn l]) := rfl
        refine asg2_eq e1 ?_
        unfold gSubN
        rw [dv rfl]
        show (dBin vIx (dVar 2) (dVar 4) _ _).toT _ _ = _
        rw [e_bin, dv rfl, Res.bind_ok, dv rfl, Res.bind_ok, show vIx (.lst ((sg cs t).map sv)) (.int p.length) (h ++ [.dn l]) = .ok (sv x) (h ++ [.dn l]) from vIx_lst (nth_nat (by rw [List.getElem?_map, hx]; rfl))]
        show (match vSetN (.ref h.length) (sv x) (.int p.length) (h ++ [.dn l]) with | some h3 => TRes.ok _ h3 | none => .fail) = _
        rw [setN_eq at_ (keyOk_sv x) (by omega)]
        simp
      · have := rl.put x
        rw [List.length_take, Nat.min_eq_left (by omega)] at this
        rw [List.length_append]
        show RD ((sg cs t).take (p.length + 1)) _
        rw [List.take_add_one, hx]
        exact this)
  refine ⟨l, ?_, ?_⟩
  · rw [List.nil_append, List.length_range, List.take_length] at rl
    exact rl
  · rw [e, SRes.andThen_nx]
    exact ret_eq (dv rfl)
end L07
set_option Elab.async false
set_option linter.all false
set_option maxRecDepth 100000
set_option maxHeartbeats 1000000
set_option autoImplicit false
namespace L07
open GH PySem
variable [TheWorld]
/-! machines: rows of states, the state above -/
def Row : Nat → Nat → Val → Prop
  | 0, q, v => ∃ s : Nat, s < q ∧ v = .int s
  | n + 1, q, v => ∃ L, v = .tup L ∧ L.length = q ∧ ∀ x ∈ L, Row n q x
def nthV (v : Val) (i : Nat) : Val := match v with
  | .tup l => (l[i]?).getD .non
  | _ => .non
def un (v : Val) : Nat := match v with
  | .int i => i.toNat
  | _ => 0
theorem Row.nth {n q i : Nat} {v : Val} {h : Hv} (r : Row (n + 1) q v) (hi : i < q) : vIx v (.int i) h = .ok (nthV v i) h ∧ Row n q (nthV v i) := by
  obtain ⟨L, rfl, hl, hr⟩ := r
  obtain ⟨x, hx⟩ : ∃ x, L[i]? = some x := ⟨_, List.getElem?_eq_getElem (by omega)⟩
  have e : nthV (.tup L) i = x := by simp [nthV, hx]
  rw [e]
  exact ⟨vIx_tup (nth_nat hx), hr x (List.mem_of_getElem? hx)⟩
def ab (T : List Val) (r : Nat) (cs : List Nat) : Nat := un (cs.foldl nthV ((T[r]?).getD .non))
theorem Row.fold {q : Nat} : ∀ {cs : List Nat} {v : Val}, Row cs.length q v → (∀ c ∈ cs, c < q) → ∃ s, s < q ∧ cs.foldl nthV v = .int s
  | [], v, r, _ => r
  | c :: cs, v, r, hc => Row.fold (cs := cs) (r.nth (h := []) (hc c (List.mem_cons_self ..))).2 fun d hd => hc d (List.mem_cons_of_mem _ hd)
noncomputable abbrev abS : Stm := (sSeq (sAsg (dBin vIx (dVar 3) (dVar 4)) (gName 3)) sNext)
noncomputable abbrev abB : Stm := (sSeq (sAsg (dBin vIx (dBin vIx (dVar 0) (dC (.int 2))) (dVar 1)) (gName 3))
    (sSeq (sFor (iSeq (dVar 2)) (gName 4) abS)
    (sSeq (sRet (dVar 3))
    sNext)))
theorem ab_for {q : Nat} {a b c : Option Val} {it : List Val} {h : Hv} : ∀ (cs : List Nat) (v : Val) (x : Option Val), Row cs.length q v → (∀ c ∈ cs, c < q) → ∃ x', forL (gName 4) abS (it, none) (cs.map fun c : Nat => Val.int c) [a, b, c, some v, x] h = .nx [a, b, c, some (cs.foldl nthV v), x'] h
  | [], v, x, _, _ => ⟨x, for_nil⟩
  | d :: cs, v, x, r, hc => by
    obtain ⟨e, r'⟩ := r.nth (h := h) (hc d (List.mem_cons_self ..))
    obtain ⟨x', e'⟩ := ab_for (q := q) (a := a) (b := b) (c := c) (it := it) (h := h) cs (nthV v d) (some (.int d)) r' fun d hd => hc d (List.mem_cons_of_mem _ hd)
    refine ⟨x', ?_⟩
    rw [List.map_cons, for_cons (l1 := [a, b, c, some v, some (.int d)]) rfl, show abS [a, b, c, some v, some (.int d)] h = .nx [a, b, c, some (nthV v d), some (.int d)] h from set_eq (by rw [e_bin, dv rfl, Res.bind_ok, dv rfl, Res.bind_ok]; exact e), SRes.turn_nx]
    exact e'
theorem ab_eq {q r : Nat} {a b d : Val} {T : List Val} {row : Val} {cs : List Nat} {h : Hv} (hr : T[r]? = some row) (rw_ : Row cs.length q row) (hc : ∀ c ∈ cs, c < q) : runDef 5 abB [.tup [a, b, .tup T, d], .int r, .lst (cs.map fun c : Nat => Val.int c)] h = .ok (.int (ab T r cs)) h ∧ ab T r cs < q := by
  obtain ⟨s, hs, e⟩ := rw_.fold hc
  have e2 : ab T r cs = s := by simp [ab, hr, e, un]
  refine ⟨run_rt ?_, by rw [e2]; exact hs⟩
  show abB [some (.tup [a, b, .tup T, d]), some (.int r), some (.lst (cs.map fun c : Nat => Val.int c)), none, none] h = _
  unfold abB
  rw [set_eq (v := row) (h1 := h) (by rw [e_bin, e_bin, dv rfl, Res.bind_ok, e_c, Res.bind_ok, t2, Res.bind_ok, dv rfl, Res.bind_ok, vIx_tup (nth_nat hr)])]
  show sSeq _ _ [some (.tup [a, b, .tup T, d]), some (.int r), some (.lst (cs.map fun c : Nat => Val.int c)), some row, none] h = _
  rw [for_eq (it := cs.map fun c : Nat => Val.int c) (h1 := h) rfl]
  obtain ⟨x', e'⟩ := ab_for (q := q) (a := some (.tup [a, b, .tup T, d])) (b := some (.int r)) (c := some (.lst (cs.map fun c : Nat => Val.int c))) (it := cs.map fun c : Nat => Val.int c) (h := h) cs row none rw_ hc
  rw [e', SRes.andThen_nx]
  exact ret_eq (by rw [e, e2]; rfl)
/-! marked shapes -/
inductive Ms where
  | nil | one (p : Nat × List Nat) (a : Ms) | two (p : Nat × List Nat) (a b : Ms)
namespace Ms
def val : Ms → Val
  | nil => .tup []
  | one p a => .tup [sv p, a.val]
  | two p a b => .tup [sv p, a.val, b.val]
def size : Ms → Nat
  | nil => 0
  | one _ a => a.size + 1
  | two _ a b => a.size + b.size + 1
def good (n : Nat) (S : List (Nat × List Nat)) : Ms → Prop
  | nil => True
  | one p a => n = 1 ∧ p ∈ S ∧ a.good n S
  | two p a b => n = 2 ∧ p ∈ S ∧ a.good n S ∧ b.good n S
def st (T : List Val) (S : List (Nat × List Nat)) : Ms → Nat
  | nil => 0
  | one p a => ab T ((lix S p).getD 0) [a.st T S]
  | two p a b => ab T ((lix S p).getD 0) [a.st T S, b.st T S]
end Ms
/-- a table of rows -/
structure TOk (n q : Nat) (S : List (Nat × List Nat)) (T : List Val) : Prop where
  len : T.length = S.length
  row : ∀ v ∈ T, Row n q v
  pos : 0 < q
theorem TOk.at {n q : Nat} {S : List (Nat × List Nat)} {T : List Val} (t : TOk n q S T) {p : Nat × List Nat} (hp : p ∈ S) : ∃ r row, lix S p = some r ∧ T[r]? = some row ∧ Row n q row := by
  obtain ⟨r, e, l⟩ := lix_ok hp
  exact ⟨r, _, e, List.getElem?_eq_getElem (by rw [t.len]; exact l), t.row _ (List.getElem_mem _)⟩
theorem Ms.st_lt {n q : Nat} {S : List (Nat × List Nat)} {T : List Val} (t : TOk n q S T) : ∀ {m : Ms}, m.good n S → m.st T S < q
  | .nil, _ => t.pos
  | .one p a, ⟨hn, hp, ha⟩ => by
    subst hn
    obtain ⟨r, row, e, hr, rw_⟩ := t.at hp
    have := (ab_eq (a := .non) (b := .non) (d := .non) (cs := [a.st T S]) (h := []) hr rw_ (by simpa using Ms.st_lt t ha)).2
    simpa [Ms.st, e] using this
  | .two p a b, ⟨hn, hp, ha, hb⟩ => by
    subst hn
    obtain ⟨r, row, e, hr, rw_⟩ := t.at hp
    have := (ab_eq (a := .non) (b := .non) (d := .non) (cs := [a.st T S, b.st T S]) (h := []) hr rw_ (by simpa using ⟨Ms.st_lt t ha, Ms.st_lt t hb⟩)).2
    simpa [Ms.st, e] using this
end L07
set_option Elab.async false
set_option linter.all false
set_option maxRecDepth 100000
set_option maxHeartbeats 1000000
set_option autoImplicit false
namespace L07
open GH PySem
variable [TheWorld]
/-! state_of: the work stack -/
theorem get_at (h0 g : Hv) (i : Nat) : (h0 ++ g)[h0.length + i]? = g[i]? := by
  rw [List.getElem?_append_right (by omega)]
  congr 1
  omega
theorem set_at (h0 g : Hv) (i : Nat) (o : Ob) : (h0 ++ g).set (h0.length + i) o = h0 ++ g.set i o := by
  show List.set (h0 ++ g : List Ob) _ _ = (h0 ++ g.set i o : List Ob)
  rw [List.set_append, if_neg (by omega)]
  congr 2
  omega
theorem get_set {g : Hv} {i j : Nat} {o u : Ob} (e : g[i]? = some u) : (g.set j o)[i]? = if i = j then some o else some u := by
  rw [List.getElem?_set]
  by_cases c : i = j
  · subst c
    have : i < g.length := (List.getElem?_eq_some_iff.mp e).1
    simp [this]
  · have : ¬ j = i := fun z => c z.symm
    simp [c, this, e]
theorem pop_at {l : GH.Loc} {h : Hv} {i j : Nat} {L : List Val} {v : Val} (e : l[i]? = some (some (.ref j))) (x : h[j]? = some (.lst (L ++ [v]))) : dMeth0 isLst vPop (dVar i) l h = .ok v (h.set j (.lst L)) := by
  rw [e_meth0, dv e, Res.bind_ok, if_pos (isLst_ref x)]
  exact pop_ref x
theorem app_at {l : GH.Loc} {h : Hv} {i j : Nat} {L : List Val} {v : Val} {d : Den} (e : l[i]? = some (some (.ref j))) (x : h[j]? = some (.lst L)) (ed : d l h = .ok v h) (n : L.length < 16777216) : dMeth1 isLst vAppend (dVar i) d l h = .ok .non (h.set j (.lst (L ++ [v]))) := by
  rw [e_meth1, dv e, Res.bind_ok, if_pos (isLst_ref x), ed, Res.bind_ok]
  exact append_ref x n
namespace Ms
def ch : Ms → List Ms
  | nil => []
  | one _ a => [a]
  | two _ a b => [a, b]
end Ms
def wv (p : Ms × Bool) : Val := .tup [p.1.val, .bl p.2]
noncomputable abbrev soC (G7 : DF) : Stm := (sSeq (sAsg (dBin vSub (dLen (dVar 5)) (dC (.int 1))) (gName 7))
    (sSeq (sAsg (dCut (dVar 3) (oSome (dBin vSub (dLen (dVar 3)) (dVar 7))) oNone) (gName 8))
    (sSeq (sAsg (dCutM (dVar 3) oNone (oSome (dBin vSub (dLen (dVar 3)) (dVar 7)))) (gName 3))
    (sSeq (sExpr (dMeth1 isLst vAppend (dVar 3) (dCall G7 (dCons (dVar 0) (dCons (dBin vIxN (dVar 2) (dBin vIx (dVar 5) (dC (.int 0)))) (dCons (dVar 8) dNil))))))
    sNext))))
noncomputable abbrev soF : Stm := (sSeq (sExpr (dMeth1 isLst vAppend (dVar 4) (dTup (dCons (dVar 9) (dCons (dC (.bl false)) dNil))))) sNext)
noncomputable abbrev soO : Stm := (sSeq (sExpr (dMeth1 isLst vAppend (dVar 4) (dTup (dCons (dVar 5) (dCons (dC (.bl true)) dNil)))))
    (sSeq (sFor (iSeq (dFn vBack (dVar 5))) (gName 9) soF)
    sNext))
noncomputable abbrev soB (G7 : DF) : Stm := (sSeq (sAsg (dMeth0 isLst vPop (dVar 4)) (gTup 2 (gsCons (gName 5) (gsCons (gName 6) gsNil))))
    (sSeq (sIf (dNot (dTru (dVar 5))) (sSeq (sExpr (dMeth1 isLst vAppend (dVar 3) (dC (.int 0))))
    sNext) (sSeq (sIf (dTru (dVar 6)) (soC G7) soO)
    sNext))
    sNext))
section
variable {mv v0 : Val} {h0 : Hv} {ld : List (Val × Val)}
def St (mv v0 : Val) (h0 : Hv) (ld : List (Val × Val)) (W : List (Ms × Bool)) (Dn : List Nat) (l : GH.Loc) (h : Hv) : Prop :=
  ∃ d g x5 x6 x7 x8 x9, l = [some mv, some v0, some (.ref (h0.length + 0)), some (.ref (h0.length + d)), some (.ref (h0.length + 2)), x5, x6, x7, x8, x9] ∧ h = h0 ++ g ∧ g[0]? = some (.dn ld) ∧ g[2]? = some (.lst (W.map wv)) ∧ g[d]? = some (.lst (Dn.map fun s : Nat => Val.int s)) ∧ d ≠ 0 ∧ d ≠ 2
theorem turn_nil {G7 : DF} {W : List (Ms × Bool)} {Dn : List Nat} {l : GH.Loc} {h : Hv} (s : St mv v0 h0 ld (W ++ [(.nil, false)]) Dn l h) (n : Dn.length < 1000000) : ∃ l' h', soB G7 l h = .nx l' h' ∧ St mv v0 h0 ld W (Dn ++ [0]) l' h' := by
  obtain ⟨d, g, x5, x6, x7, x8, x9, rfl, rfl, g0, g2, gd, d0, d2⟩ := s
  rw [List.map_append, List.map_singleton] at g2
  have gW : (g.set 2 (.lst (W.map wv)))[d]? = some (.lst (Dn.map fun s : Nat => Val.int s)) := by rw [get_set gd, if_neg d2]
  refine ⟨_, _, ?_, d, (g.set 2 (.lst (W.map wv))).set d (.lst ((Dn ++ [0]).map fun s : Nat => Val.int s)), some (.tup []), some (.bl false), x7, x8, x9, rfl, rfl, ?_, ?_, ?_, d0, d2⟩
  · unfold soB
    rw [asg2_eq (pop_at (j := h0.length + 2) rfl (by rw [get_at]; exact g2)) (show gTup 2 _ (wv (.nil, false)) _ _ = .ok [some mv, some v0, some (.ref (h0.length + 0)), some (.ref (h0.length + d)), some (.ref (h0.length + 2)), some (.tup []), some (.bl false), x7, x8, x9] _ from rfl), set_at]
    rw [if_t (h1 := h0 ++ g.set 2 (.lst (W.map wv))) (by rfl)]
    rw [expr_eq (app_at (j := h0.length + d) (L := Dn.map fun s : Nat => Val.int s) (v := .int 0) rfl (by rw [get_at]; exact gW) rfl (by simp; omega)), set_at, e_next, SRes.andThen_nx, e_next]
    simp
  · rw [get_set (u := .dn ld) (by rw [get_set g0, if_neg (by decide)]), if_neg (Ne.symm d0)]
  · rw [get_set (u := .lst (W.map wv)) (by rw [get_set g2, if_pos rfl]), if_neg (Ne.symm d2)]
  · rw [get_set gW, if_pos rfl]
theorem soF_for {x2 x3 x5 x6 x7 x8 : Option Val} {it : List Val} : ∀ (C : List Ms) (W : List (Ms × Bool)) (x9 : Option Val) (g : Hv), g[2]? = some (.lst (W.map wv)) → W.length + C.length < 1000000 →
    ∃ x9', forL (gName 9) soF (it, none) (C.map Ms.val) [some mv, some v0, x2, x3, some (.ref (h0.length + 2)), x5, x6, x7, x8, x9] (h0 ++ g) = .nx [some mv, some v0, x2, x3, some (.ref (h0.length + 2)), x5, x6, x7, x8, x9'] (h0 ++ g.set 2 (.lst ((W ++ C.map fun c => (c, false)).map wv)))
  | [], W, x9, g, g2, _ => ⟨x9, by
    rw [List.map_nil, for_nil]
    congr 2
    rw [List.map_nil, List.append_nil]
    apply List.ext_getElem?
    intro i
    by_cases c : i = 2
    · subst c; rw [get_set g2, if_pos rfl, g2]
    · rw [List.getElem?_set_ne (fun z => c z.symm)]⟩
  | c :: C, W, x9, g, g2, n => by
    have e1 : soF [some mv, some v0, x2, x3, some (.ref (h0.length + 2)), x5, x6, x7, x8, some c.val] (h0 ++ g) = .nx [some mv, some v0, x2, x3, some (.ref (h0.length + 2)), x5, x6, x7, x8, some c.val] (h0 ++ g.set 2 (.lst ((W ++ [(c, false)]).map wv))) := by
      unfold soF
      rw [expr_eq (app_at (j := h0.length + 2) (L := W.map wv) (v := wv (c, false)) rfl (by rw [get_at]; exact g2) (by
        rw [e_tup, e_cons, dv rfl, Res.bind_ok, e_cons, e_c, Res.bind_ok, e_nil, Res.bind_ok, Res.bind_ok, Res.bind_ok, mkT_ok (by simp)]; rfl) (by simp at n ⊢; omega)), set_at, e_next]
      simp
    obtain ⟨x9', e2⟩ := soF_for C (W ++ [(c, false)]) (some c.val) (g.set 2 (.lst ((W ++ [(c, false)]).map wv))) (by rw [get_set g2, if_pos rfl]) (by simp at n ⊢; omega)
    refine ⟨x9', ?_⟩
    rw [List.map_cons, for_cons (l1 := [some mv, some v0, x2, x3, some (.ref (h0.length + 2)), x5, x6, x7, x8, some c.val]) rfl, e1, SRes.turn_nx, e2]
    simp
end
end L07
set_option Elab.async false
set_option linter.all false
set_option maxRecDepth 100000
set_option maxHeartbeats 1000000
set_option autoImplicit false
namespace L07
open GH PySem
variable [TheWorld]
section
variable {mv v0 : Val} {h0 : Hv} {ld : List (Val × Val)}
theorem set2_get {g : Hv} {W W' : List (Ms × Bool)} (g2 : g[2]? = some (.lst (W.map wv))) : (g.set 2 (.lst (W'.map wv)))[2]? = some (.lst (W'.map wv)) := by rw [get_set g2, if_pos rfl]
theorem ch_val : ∀ {m : Ms}, m ≠ .nil → ∃ p, m.val = .tup (sv p :: m.ch.map Ms.val) ∧ m.ch.length ≤ 2
  | .nil, h => absurd rfl h
  | .one p a, _ => ⟨p, rfl, by simp [Ms.ch]⟩
  | .two p a b, _ => ⟨p, rfl, by simp [Ms.ch]⟩
theorem turn_open {G7 : DF} {W : List (Ms × Bool)} {Dn : List Nat} {m : Ms} {l : GH.Loc} {h : Hv} (hm : m ≠ .nil) (s : St mv v0 h0 ld (W ++ [(m, false)]) Dn l h) (n : W.length < 900000) : ∃ l' h', soB G7 l h = .nx l' h' ∧ St mv v0 h0 ld ((W ++ [(m, true)]) ++ m.ch.reverse.map fun c => (c, false)) Dn l' h' := by
  obtain ⟨d, g, x5, x6, x7, x8, x9, rfl, rfl, g0, g2, gd, d0, d2⟩ := s
  obtain ⟨p, ev, hl⟩ := ch_val hm
  rw [List.map_append, List.map_singleton] at g2
  have A2 : (g.set 2 (.lst (W.map wv)))[2]? = some (.lst (W.map wv)) := by rw [get_set g2, if_pos rfl]
  have B2 : ((g.set 2 (.lst (W.map wv))).set 2 (.lst ((W ++ [(m, true)]).map wv)))[2]? = some (.lst ((W ++ [(m, true)]).map wv)) := by rw [get_set A2, if_pos rfl]
  obtain ⟨y9, ef⟩ := soF_for (mv := mv) (v0 := v0) (h0 := h0) (x2 := some (.ref (h0.length + 0))) (x3 := some (.ref (h0.length + d))) (x5 := some m.val) (x6 := some (.bl false)) (x7 := x7) (x8 := x8) (it := m.ch.reverse.map Ms.val) m.ch.reverse (W ++ [(m, true)]) x9 _ B2 (by simp; omega)
  refine ⟨_, _, ?_, d, (((g.set 2 (.lst (W.map wv))).set 2 (.lst ((W ++ [(m, true)]).map wv))).set 2 (.lst (((W ++ [(m, true)]) ++ m.ch.reverse.map fun c => (c, false)).map wv))), some m.val, some (.bl false), x7, x8, y9, rfl, rfl, ?_, ?_, ?_, d0, d2⟩
  · unfold soB
    rw [asg2_eq (pop_at (j := h0.length + 2) rfl (by rw [get_at]; exact g2)) (show gTup 2 _ (wv (m, false)) _ _ = .ok [some mv, some v0, some (.ref (h0.length + 0)), some (.ref (h0.length + d)), some (.ref (h0.length + 2)), some m.val, some (.bl false), x7, x8, x9] _ from rfl), set_at]
    rw [if_e (h1 := h0 ++ g.set 2 (.lst (W.map wv))) (by
      show (dTru (dVar 5) _ _).bind _ = _
      rw [e_tru, dv (v := .tup (sv p :: m.ch.map Ms.val)) (by rw [← ev]; rfl), Res.bind_ok, tru_tup, Res.bind_ok]
      rfl)]
    rw [if_e (h1 := h0 ++ g.set 2 (.lst (W.map wv))) (by rfl)]
    unfold soO
    rw [expr_eq (app_at (j := h0.length + 2) (L := W.map wv) (v := wv (m, true)) rfl (by rw [get_at]; exact A2) (by
      rw [e_tup, e_cons, dv rfl, Res.bind_ok, e_cons, e_c, Res.bind_ok, e_nil, Res.bind_ok, Res.bind_ok, Res.bind_ok, mkT_ok (by simp)]; rfl) (by simp; omega)), set_at]
    rw [show ((W.map wv) ++ [wv (m, true)]) = (W ++ [(m, true)]).map wv by simp]
    rw [for_eq (it := m.ch.reverse.map Ms.val) (h1 := h0 ++ (g.set 2 (.lst (W.map wv))).set 2 (.lst ((W ++ [(m, true)]).map wv))) (by
      rw [e_iseq, e_fn, dv (v := .tup (sv p :: m.ch.map Ms.val)) (by rw [← ev]; rfl), Res.bind_ok]
      show (Res.ok (.tup (m.ch.map Ms.val).reverse) _).bind vIter = _
      rw [Res.bind_ok, vIter_tup, List.map_reverse]), ef, SRes.andThen_nx, e_next, SRes.andThen_nx, e_next, SRes.andThen_nx, e_next]
  · rw [get_set (u := .dn ld) (by rw [get_set (u := .dn ld) (by rw [get_set g0, if_neg (by decide)]), if_neg (by decide)]), if_neg (by decide)]
  · rw [get_set B2, if_pos rfl]
  · rw [get_set (u := .lst (Dn.map fun s : Nat => Val.int s)) (by rw [get_set (u := .lst (Dn.map fun s : Nat => Val.int s)) (by rw [get_set gd, if_neg d2]), if_neg d2]), if_neg d2]
theorem turn_close {G7 : DF} {W : List (Ms × Bool)} {Dn ss : List Nat} {m : Ms} {p : Nat × List Nat} {r s : Nat} {l : GH.Loc} {h : Hv} (ev : m.val = .tup (sv p :: m.ch.map Ms.val)) (hs : ss.length = m.ch.length) (hk : dGetN ld (sv p) = some (.int r)) (hG : ∀ H, G7 [mv, .int r, .lst (ss.map fun s : Nat => Val.int s)] H = .ok (.int s) H)
    (z : St mv v0 h0 ld (W ++ [(m, true)]) (Dn ++ ss) l h) (n : Dn.length < 900000) : ∃ l' h', soB G7 l h = .nx l' h' ∧ St mv v0 h0 ld W (Dn ++ [s]) l' h' := by
  obtain ⟨d, g, x5, x6, x7, x8, x9, rfl, rfl, g0, g2, gd, d0, d2⟩ := z
  rw [List.map_append, List.map_singleton] at g2
  let g' : Hv := g.set 2 (.lst (W.map wv))
  have A2 : g'[2]? = some (.lst (W.map wv)) := by rw [get_set g2, if_pos rfl]
  have A0 : g'[0]? = some (.dn ld) := by rw [get_set g0, if_neg (by decide)]
  have Ad : g'[d]? = some (.lst ((Dn ++ ss).map fun s : Nat => Val.int s)) := by rw [get_set gd, if_neg d2]
  have L2 : 2 < g'.length := (List.getElem?_eq_some_iff.mp A2).1
  have ed : ∀ {x : Option Val} {y z w u : Option Val}, dLen (dVar 3) [some mv, some v0, some (.ref (h0.length + 0)), some (.ref (h0.length + d)), some (.ref (h0.length + 2)), x, y, z, w, u] (h0 ++ g') = .ok (.int ((Dn ++ ss).length : Nat)) (h0 ++ g') := by
    intro x y z w u
    rw [e_len, dv rfl, Res.bind_ok, len_ref (by rw [get_at]; exact Ad), List.length_map]
  have ew : ∀ {x : Option Val} {y w u : Option Val}, oSome (dBin vSub (dLen (dVar 3)) (dVar 7)) [some mv, some v0, some (.ref (h0.length + 0)), some (.ref (h0.length + d)), some (.ref (h0.length + 2)), x, y, some (.int (ss.length : Nat)), w, u] (h0 ++ g') = .ok (some (Dn.length : Nat)) (h0 ++ g') := by
    intro x y w u
    rw [e_osome, e_bin, ed, Res.bind_ok, dv rfl, Res.bind_ok, vSub_int, Res.bind_ok]
    simp
  refine ⟨_, _, ?_, g'.length, (g' ++ [Ob.lst (Dn.map fun s : Nat => Val.int s)]).set g'.length (.lst ((Dn ++ [s]).map fun s : Nat => Val.int s)), some m.val, some (.bl true), some (.int (ss.length : Nat)), some (.lst (ss.map fun s : Nat => Val.int s)), x9, rfl, rfl, ?_, ?_, ?_, by omega, by omega⟩
  · unfold soB
    rw [asg2_eq (pop_at (j := h0.length + 2) rfl (by rw [get_at]; exact g2)) (show gTup 2 _ (wv (m, true)) _ _ = .ok [some mv, some v0, some (.ref (h0.length + 0)), some (.ref (h0.length + d)), some (.ref (h0.length + 2)), some m.val, some (.bl true), x7, x8, x9] _ from rfl), set_at]
    rw [if_e (h1 := h0 ++ g') (by
      show (dTru (dVar 5) _ _).bind _ = _
      rw [e_tru, dv (v := .tup (sv p :: m.ch.map Ms.val)) (by rw [← ev]; rfl), Res.bind_ok, tru_tup, Res.bind_ok]
      rfl)]
    rw [if_t (h1 := h0 ++ g') (by rfl)]
    unfold soC
    rw [set_eq (v := .int (ss.length : Nat)) (h1 := h0 ++ g') (by
      rw [e_bin, e_len, dv (v := .tup (sv p :: m.ch.map Ms.val)) (by rw [← ev]; rfl), Res.bind_ok, vLen_tup, Res.bind_ok, e_c, Res.bind_ok, vSub_int, hs]
      simp)]
    show ((sSeq _ _ [some mv, some v0, some (.ref (h0.length + 0)), some (.ref (h0.length + d)), some (.ref (h0.length + 2)), some m.val, some (.bl true), some (.int (ss.length : Nat)), x8, x9] (h0 ++ g')).andThen _).andThen _ = _
    rw [set_eq (v := .lst (ss.map fun s : Nat => Val.int s)) (h1 := h0 ++ g') (by
      rw [e_cut, dv rfl, Res.bind_ok, ew, Res.bind_ok, e_onone, Res.bind_ok]
      show (match lstOf (h0 ++ g') (.ref (h0.length + d)) with | some l => Res.ok (Val.lst (cut l _ _)) (h0 ++ g') | none => .fail) = _
      rw [show lstOf (h0 ++ g') (.ref (h0.length + d)) = some ((Dn ++ ss).map fun s : Nat => Val.int s) by simp only [lstOf]; rw [get_at, Ad]]
      simp only
      rw [cut_drop, List.map_append, List.drop_left' (by simp)])]
    show ((sSeq _ _ [some mv, some v0, some (.ref (h0.length + 0)), some (.ref (h0.length + d)), some (.ref (h0.length + 2)), some m.val, some (.bl true), some (.int (ss.length : Nat)), some (.lst (ss.map fun s : Nat => Val.int s)), x9] (h0 ++ g')).andThen _).andThen _ = _
    rw [set_eq (cutM_eq (i := h0.length + d) (xs := (Dn ++ ss).map fun s : Nat => Val.int s) (dv rfl) (by rw [get_at]; exact Ad) (e_onone ..) ew), cut_take, List.map_append, List.take_left' (by simp), List.append_assoc, List.length_append]
    show ((sSeq _ _ [some mv, some v0, some (.ref (h0.length + 0)), some (.ref (h0.length + g'.length)), some (.ref (h0.length + 2)), some m.val, some (.bl true), some (.int (ss.length : Nat)), some (.lst (ss.map fun s : Nat => Val.int s)), x9] (h0 ++ (g' ++ [Ob.lst (Dn.map fun s : Nat => Val.int s)]))).andThen _).andThen _ = _
    rw [expr_eq (app_at (j := h0.length + g'.length) (L := Dn.map fun s : Nat => Val.int s) (v := .int s) rfl (by rw [get_at]; simp) (by
      rw [e_call, e_cons, dv rfl, Res.bind_ok, e_cons, e_bin, dv rfl, Res.bind_ok, e_bin, dv (v := .tup (sv p :: m.ch.map Ms.val)) (by rw [← ev]; rfl), Res.bind_ok, e_c, Res.bind_ok, t0, Res.bind_ok, ixN_eq (i := h0.length + 0) (l := ld) (v := .int r) (by rw [get_at, List.getElem?_append_left (by omega)]; exact A0) (keyOk_sv p) hk, Res.bind_ok, e_cons, dv rfl, Res.bind_ok, e_nil, Res.bind_ok, Res.bind_ok, Res.bind_ok, Res.bind_ok]
      exact hG _) (by simp; omega)), set_at, e_next, SRes.andThen_nx, e_next, SRes.andThen_nx, e_next]
    simp
  · rw [get_set (u := .dn ld) (by rw [List.getElem?_append_left (by omega)]; exact A0), if_neg (by omega)]
  · rw [get_set (u := .lst (W.map wv)) (by rw [List.getElem?_append_left (by omega)]; exact A2), if_neg (by omega)]
  · rw [get_set (u := .lst (Dn.map fun s : Nat => Val.int s)) (by simp), if_pos rfl]
end
end L07
set_option Elab.async false
set_option linter.all false
set_option maxRecDepth 100000
set_option maxHeartbeats 1000000
set_option autoImplicit false
namespace L07
open GH PySem
variable [TheWorld]
section
variable {mv v0 : Val} {h0 : Hv} {ld : List (Val × Val)}
theorem cond_t {W : List (Ms × Bool)} {x : Ms × Bool} {Dn : List Nat} {l : GH.Loc} {h : Hv} (s : St mv v0 h0 ld (W ++ [x]) Dn l h) : dTru (dVar 4) l h = .ok true h := by
  obtain ⟨d, g, x5, x6, x7, x8, x9, rfl, rfl, g0, g2, gd, d0, d2⟩ := s
  rw [e_tru, dv rfl, Res.bind_ok, tru_ref (by rw [get_at]; exact g2)]
  simp
theorem go_on {G7 : DF} {l l' : GH.Loc} {h h' : Hv} (c : dTru (dVar 4) l h = .ok true h) (e : soB G7 l h = .nx l' h') : sWhile (dTru (dVar 4)) (soB G7) l h = sWhile (dTru (dVar 4)) (soB G7) l' h' := by
  rw [wh_t c, e, SRes.turn_nx]
theorem big {n q : Nat} {S : List (Nat × List Nat)} {T : List Val} {G7 : DF} (t : TOk n q S T) (rd : RD S ld)
    (hG : ∀ (r : Nat) (row : Val) (cs : List Nat) (H : Hv), T[r]? = some row → Row cs.length q row → (∀ c ∈ cs, c < q) → G7 [mv, .int r, .lst (cs.map fun c : Nat => Val.int c)] H = .ok (.int (ab T r cs)) H) :
    ∀ (m : Ms), m.good n S → ∀ (W : List (Ms × Bool)) (Dn : List Nat) (l : GH.Loc) (h : Hv), St mv v0 h0 ld (W ++ [(m, false)]) Dn l h → W.length + 2 * m.size < 800000 → Dn.length + m.size < 800000 →
    ∃ l' h', St mv v0 h0 ld W (Dn ++ [m.st T S]) l' h' ∧ sWhile (dTru (dVar 4)) (soB G7) l h = sWhile (dTru (dVar 4)) (soB G7) l' h'
  | .nil, _, W, Dn, l, h, s, n1, n2 => by
    obtain ⟨l', h', e, s'⟩ := turn_nil (G7 := G7) s (by omega)
    exact ⟨l', h', s', go_on (cond_t s) e⟩
  | .one p a, ⟨hn, hp, ha⟩, W, Dn, l, h, s, n1, n2 => by
    simp only [Ms.size] at n1 n2
    obtain ⟨l1, h1, e1, s1⟩ := turn_open (G7 := G7) (by simp) s (by omega)
    have s1 : St mv v0 h0 ld ((W ++ [(.one p a, true)]) ++ [(a, false)]) Dn l1 h1 := s1
    obtain ⟨l2, h2, s2, e2⟩ := big t rd hG a ha (W ++ [(.one p a, true)]) Dn l1 h1 s1 (by simp; omega) (by omega)
    obtain ⟨r, row, er, hr, rw_⟩ := t.at hp
    obtain ⟨l3, h3, e3, s3⟩ := turn_close (G7 := G7) (p := p) (r := r) (ss := [a.st T S]) (s := ab T r [a.st T S]) rfl rfl (by rw [rd.get, er]; rfl) (fun H => hG r row [a.st T S] H hr (by rw [hn] at rw_; exact rw_) (by simpa using Ms.st_lt t ha)) s2 (by omega)
    refine ⟨l3, h3, ?_, (go_on (cond_t s) e1).trans (e2.trans (go_on (cond_t s2) e3))⟩
    simpa [Ms.st, er] using s3
  | .two p a b, ⟨hn, hp, ha, hb⟩, W, Dn, l, h, s, n1, n2 => by
    simp only [Ms.size] at n1 n2
    obtain ⟨l1, h1, e1, s1⟩ := turn_open (G7 := G7) (by simp) s (by omega)
    have s1 : St mv v0 h0 ld (((W ++ [(.two p a b, true)]) ++ [(b, false)]) ++ [(a, false)]) Dn l1 h1 := by
      simpa [Ms.ch] using s1
    obtain ⟨l2, h2, s2, e2⟩ := big t rd hG a ha _ Dn l1 h1 s1 (by simp; omega) (by omega)
    obtain ⟨l3, h3, s3, e3⟩ := big t rd hG b hb _ _ l2 h2 s2 (by simp; omega) (by simp; omega)
    have s3 : St mv v0 h0 ld (W ++ [(.two p a b, true)]) (Dn ++ [a.st T S, b.st T S]) l3 h3 := by simpa using s3
    obtain ⟨r, row, er, hr, rw_⟩ := t.at hp
    obtain ⟨l4, h4, e4, s4⟩ := turn_close (G7 := G7) (p := p) (r := r) (ss := [a.st T S, b.st T S]) (s := ab T r [a.st T S, b.st T S]) rfl rfl (by rw [rd.get, er]; rfl) (fun H => hG r row [a.st T S, b.st T S] H hr (by rw [hn] at rw_; exact rw_) (by simpa using ⟨Ms.st_lt t ha, Ms.st_lt t hb⟩)) s3 (by omega)
    refine ⟨l4, h4, ?_, (go_on (cond_t s) e1).trans (e2.trans (e3.trans (go_on (cond_t s3) e4)))⟩
    simpa [Ms.st, er] using s4
end
/-! the machine as a value -/
structure Mc where
  n : Nat
  cs : List Nat
  t : Nat
  q : Nat
  T : List Val
  good : List Bool
namespace Mc
def val (M : Mc) : Val := .tup [kv M.n M.cs, .int M.t, .tup M.T, .tup (M.good.map .bl)]
abbrev S (M : Mc) : List (Nat × List Nat) := sg M.cs M.t
structure ok (M : Mc) : Prop where
  n12 : M.n = 1 ∨ M.n = 2
  cs : M.cs ∈ KS
  t : M.t ≤ 6
  q : M.q ≤ 300
  tab : TOk M.n M.q M.S M.T
  gl : M.good.length = M.q
end Mc
theorem G7_eq {M : Mc} (hM : M.ok) {k j : Nat} (hj : lev D (k + 1) j = runDef 5 abB) (r : Nat) (row : Val) (cs : List Nat) (H : Hv) (hr : M.T[r]? = some row) (rw_ : Row cs.length M.q row) (hc : ∀ c ∈ cs, c < M.q) : lev D (k + 1) j [M.val, .int r, .lst (cs.map fun c : Nat => Val.int c)] H = .ok (.int (ab M.T r cs)) H := by
  rw [hj]
  exact (ab_eq hr rw_ hc).1
theorem j7 (k : Nat) : lev D (k + 1) 7 = runDef 5 abB := rfl
theorem j22 (k : Nat) : lev D (k + 1) 22 = runDef 5 abB := rfl
theorem state_eq {M : Mc} (hM : M.ok) {k : Nat} {m : Ms} {h : Hv} (hm : m.good M.n M.S) (n : m.size < 1000) : lev D (k + 4) 8 [M.val, m.val] h = .ok (.int (m.st M.T M.S)) h := by
  have hc : M.cs.length ≤ 10 := by have := (KS_len hM.cs).2.1; omega
  obtain ⟨ld, rd, er⟩ := rbs_eq (k := k) (n := M.n) (h := h) hc hM.t
  suffices q : ∃ l' h', St M.val m.val h ld [] [m.st M.T M.S] l' h' ∧ b_state_of (lev D (k + 3)) [some M.val, some m.val, none, none, none, none, none, none, none, none] h = sSeq (sRet (dBin vIx (dVar 3) (dC (.int 0)))) sNext l' h' by
    obtain ⟨l', h', ⟨d, g, x5, x6, x7, x8, x9, rfl, rfl, g0, g2, gd, d0, d2⟩, e⟩ := q
    refine tidy_okE (g := g) (run_rt (e.trans (ret_eq ?_))) rfl
    rw [e_bin, dv rfl, Res.bind_ok, e_c, Res.bind_ok]
    simp only [vIx, seqOf, lstOf]
    rw [get_at, gd]
    rfl
  unfold b_state_of
  rw [set_eq (v := .ref h.length) (h1 := h ++ [.dn ld]) (by
    rw [e_call, e_cons, e_bin, dv rfl, Res.bind_ok, e_c, Res.bind_ok, show vIx M.val (.int 0) h = .ok (kv M.n M.cs) h from t0 .., Res.bind_ok, e_cons, e_bin, dv rfl, Res.bind_ok, e_c, Res.bind_ok, show vIx M.val (.int 1) h = .ok (.int M.t) h from t1 .., Res.bind_ok, e_nil, Res.bind_ok, Res.bind_ok, Res.bind_ok, er])]
  rw [set_eq (v := .ref (h.length + 1)) (h1 := h ++ [.dn ld, .lst []]) (by rw [e_lstM, e_nil, Res.bind_ok, mkR_ok (by simp)]; simp)]
  rw [set_eq (v := .ref (h.length + 2)) (h1 := h ++ [.dn ld, .lst [], .lst [wv (m, false)]]) (by
    rw [e_lstM, e_cons, e_tup, e_cons, dv (v := m.val) rfl, Res.bind_ok, e_cons, e_c, Res.bind_ok, e_nil, Res.bind_ok, Res.bind_ok, Res.bind_ok, mkT_ok (by simp), Res.bind_ok, e_nil, Res.bind_ok, Res.bind_ok, mkR_ok (by simp)]
    simp [wv])]
  have s0 : St M.val m.val h ld ([] ++ [(m, false)]) [] [some M.val, some m.val, some (.ref (h.length + 0)), some (.ref (h.length + 1)), some (.ref (h.length + 2)), none, none, none, none, none] (h ++ [.dn ld, .lst [], .lst [wv (m, false)]]) :=
    ⟨1, _, none, none, none, none, none, rfl, rfl, rfl, rfl, rfl, by decide, by decide⟩
  obtain ⟨l', h', s', e⟩ := big (G7 := lev D (k + 3) 7) hM.tab rd (fun r row cs H a b c => G7_eq hM (j7 _) r row cs H a b c) m hm [] [] _ _ s0 (by simp; omega) (by simp; omega)
  refine ⟨l', h', s', ?_⟩
  rw [e_seq]
  refine (congrArg (fun r => SRes.andThen r _) (e.trans (wh_f ?_))).trans (SRes.andThen_nx ..)
  obtain ⟨d, g, x5, x6, x7, x8, x9, rfl, rfl, g0, g2, gd, d0, d2⟩ := s'
  rw [e_tru, dv rfl, Res.bind_ok, tru_ref (by rw [get_at]; exact g2)]
  rfl
end L07
set_option Elab.async false
set_option linter.all false
set_option maxRecDepth 100000
set_option maxHeartbeats 1000000
set_option autoImplicit false
namespace L07
open GH PySem
variable [TheWorld]
theorem lv {K K' j : Nat} {a : List Val} {h : Hv} {P : Val → Hv → Prop} (e : K = K') (z : ok (lev D K' j a h) P) : ok (lev D K j a h) P := by subst e; exact z
/-! what is the same -/
def Pl : Nat → Val → Prop
  | _, .bl _ => True
  | _, .int _ => True
  | _, .str _ => True
  | d + 1, .tup l => l.length ≤ 16777216 ∧ ∀ v ∈ l, Pl d v
  | d + 1, .lst l => l.length ≤ 16777216 ∧ ∀ v ∈ l, Pl d v
  | _, _ => False
theorem same_items {k : Nat} {v : Val} {l : List Val} {h : Hv} {P : Val → Hv → Prop} (hv : vLen v h = .ok (.int l.length) h) (hx : ∀ (j : Nat) u, l[j]? = some u → vIx v (.int j) h = .ok u h) (hl : l.length ≤ 16777216)
    (ih : ∀ u ∈ l, ∀ (P : Val → Hv → Prop), P (.bl true) h → ok (lev D k 17 [u, u] h) P) (z : P (.bl true) h) : ok (lev D (k + 1) 16 [v, v] h) P := by
  show ok (runDef 3 (b__law_same_items (lev D k)) [v, v] h) P
  rw [ok_run]
  refine if_ (c := false) (h := h) (by simp [dVar, hv]) (fun z => by cases z) fun _ => ?_
  refine sok_seqo (fun l' h' => (∃ x, l' = [some v, some v, x]) ∧ h' = h) ?_ ?_
  · intro R' hR
    simp only [e_for, e_rng1, e_len, dVar, List.map_cons, List.map_nil, List.cons_append, List.nil_append, List.getElem?_cons_succ, List.getElem?_cons_zero, Res.bind_ok, hv, rng_ok hl, Res.to_ok]
    refine forL_invo (fun items l' h' => (∀ x ∈ items, ∃ j : Nat, j < l.length ∧ x = .int j) ∧ (∃ x, l' = [some v, some v, x]) ∧ h' = h) ?_ ?_ _ _ _ ?_
    · intro I' hI x r l' h' ⟨hit, ⟨y, hl'⟩, eh⟩
      subst hl' eh
      obtain ⟨j, hj, rfl⟩ := hit x (List.mem_cons_self ..)
      refine ⟨trivial, ?_⟩
      have hu : l[j]? = some l[j] := List.getElem?_eq_getElem hj
      simp only [e_name, tok_ok, List.set_cons_succ, List.set_cons_zero]
      refine ifk_ ?_
      simp [dVar, hx j _ hu]
      refine ih _ (List.getElem_mem hj) _ ?_
      simp
      exact hI _ _ _ ⟨fun x hx => hit x (List.mem_cons_of_mem _ hx), ⟨_, rfl⟩, rfl⟩
    · intro l' h' ⟨_, ⟨y, hl'⟩, eh⟩
      subst hl' eh
      exact ⟨trivial, hR _ _ ⟨⟨_, rfl⟩, rfl⟩⟩
    · refine ⟨fun x hx => ?_, ⟨none, rfl⟩, rfl⟩
      obtain ⟨j, hj, rfl⟩ := rng_mem hx
      exact ⟨j, hj, rfl⟩
  · rintro l' h' ⟨⟨x, rfl⟩, rfl⟩
    exact ret_ (by simpa using z)
theorem same_refl : ∀ (d : Nat) (v : Val), Pl d v → ∀ {k : Nat} {h : Hv} {P : Val → Hv → Prop}, P (.bl true) h → ok (lev D (k + 2 * d + 2) 17 [v, v] h) P := by
  intro d
  induction d with
  | zero =>
    intro v hv k h P z
    show ok (runDef 3 (b__law_same (lev D (k + 1))) [v, v] h) P
    rw [ok_run]
    cases v with
    | bl b => exact if_ (c := false) (h := h) (by simp [dVar, vIsN, isNon]) (fun z => by cases z) fun _ => if_ (c := true) (h := h) (by simp [dVar, tyOf, isiB]) (fun _ => ret_ (by simp [dVar, tyOf, isiB]; exact z)) (fun z => by cases z)
    | int i =>
      refine if_ (c := false) (h := h) (by simp [dVar, vIsN, isNon]) (fun z => by cases z) fun _ => if_ (c := false) (h := h) (by simp [dVar, tyOf, isiB]) (fun z => by cases z) fun _ => if_ (c := true) (h := h) (by simp [dVar, tyOf, isiB]) (fun _ => ret_ ?_) (fun z => by cases z)
      simp only [e_andv, e_call, e_cons, e_nil, dVar, List.map_cons, List.map_nil, List.cons_append, List.nil_append, List.getElem?_cons_succ, List.getElem?_cons_zero, Res.bind_ok, ok_bind]
      show ok (runDef 1 (b__law_is_integer (lev D k)) [.int i] h) _
      rw [ok_run]
      refine ret_ ?_
      simp [dVar, tyOf, isiB]
      exact z
    | str s => exact if_ (c := false) (h := h) (by simp [dVar, vIsN, isNon]) (fun z => by cases z) fun _ => if_ (c := false) (h := h) (by simp [dVar, tyOf, isiB]) (fun z => by cases z) fun _ => if_ (c := false) (h := h) (by simp [dVar, tyOf, isiB]) (fun z => by cases z) fun _ => if_ (c := true) (h := h) (by simp [dVar, tyOf, isiB]) (fun _ => ret_ (by simp [dVar, tyOf, isiB]; exact z)) (fun z => by cases z)
    | _ => cases hv
  | succ d ih =>
    intro v hv k h P z
    have lo : ∀ w, Pl 0 w → ok (lev D (k + 2 * (d + 1) + 2) 17 [w, w] h) P → ok (lev D (k + 2 * (d + 1) + 2) 17 [w, w] h) P := fun _ _ q => q
    show ok (runDef 3 (b__law_same (lev D (k + 2 * (d + 1) + 1))) [v, v] h) P
    rw [ok_run]
    cases v with
    | bl b => exact if_ (c := false) (h := h) (by simp [dVar, vIsN, isNon]) (fun z => by cases z) fun _ => if_ (c := true) (h := h) (by simp [dVar, tyOf, isiB]) (fun _ => ret_ (by simp [dVar, tyOf, isiB]; exact z)) (fun z => by cases z)
    | int i =>
      refine if_ (c := false) (h := h) (by simp [dVar, vIsN, isNon]) (fun z => by cases z) fun _ => if_ (c := false) (h := h) (by simp [dVar, tyOf, isiB]) (fun z => by cases z) fun _ => if_ (c := true) (h := h) (by simp [dVar, tyOf, isiB]) (fun _ => ret_ ?_) (fun z => by cases z)
      simp only [e_andv, e_call, e_cons, e_nil, dVar, List.map_cons, List.map_nil, List.cons_append, List.nil_append, List.getElem?_cons_succ, List.getElem?_cons_zero, Res.bind_ok, ok_bind]
      show ok (runDef 1 (b__law_is_integer (lev D (k + 2 * (d + 1)))) [.int i] h) _
      rw [ok_run]
      refine ret_ ?_
      simp [dVar, tyOf, isiB]
      exact z
    | str s => exact if_ (c := false) (h := h) (by simp [dVar, vIsN, isNon]) (fun z => by cases z) fun _ => if_ (c := false) (h := h) (by simp [dVar, tyOf, isiB]) (fun z => by cases z) fun _ => if_ (c := false) (h := h) (by simp [dVar, tyOf, isiB]) (fun z => by cases z) fun _ => if_ (c := true) (h := h) (by simp [dVar, tyOf, isiB]) (fun _ => ret_ (by simp [dVar, tyOf, isiB]; exact z)) (fun z => by cases z)
    | tup l =>
      refine if_ (c := false) (h := h) (by simp [dVar, vIsN, isNon]) (fun z => by cases z) fun _ => if_ (c := false) (h := h) (by simp [dVar, tyOf, isiB]) (fun z => by cases z) fun _ => if_ (c := false) (h := h) (by simp [dVar, tyOf, isiB]) (fun z => by cases z) fun _ => if_ (c := false) (h := h) (by simp [dVar, tyOf, isiB]) (fun z => by cases z) fun _ => if_ (c := true) (h := h) (by simp [dVar, tyOf, isiB]) (fun _ => ret_ ?_) (fun z => by cases z)
      simp [dVar, tyOf, isiB]
      refine lv (show k + 2 * (d + 1) + 1 = (k + 2 * d + 2) + 1 by omega) ?_
      exact same_items (l := l) (by simp) (fun j u e => vIx_tup (nth_nat e)) hv.1 (fun u hu P z => ih u (hv.2 u hu) z) z
    | lst l =>
      refine if_ (c := false) (h := h) (by simp [dVar, vIsN, isNon]) (fun z => by cases z) fun _ => if_ (c := false) (h := h) (by simp [dVar, tyOf, isiB]) (fun z => by cases z) fun _ => if_ (c := false) (h := h) (by simp [dVar, tyOf, isiB]) (fun z => by cases z) fun _ => if_ (c := false) (h := h) (by simp [dVar, tyOf, isiB]) (fun z => by cases z) fun _ => if_ (c := false) (h := h) (by simp [dVar, tyOf, isiB]) (fun z => by cases z) fun _ => if_ (c := true) (h := h) (by simp [dVar, tyOf, isiB]) (fun _ => ret_ ?_) (fun z => by cases z)
      simp [dVar, tyOf, isiB]
      refine lv (show k + 2 * (d + 1) + 1 = (k + 2 * d + 2) + 1 by omega) ?_
      exact same_items (l := l) (by simp) (fun j u e => vIx_lst (nth_nat e)) hv.1 (fun u hu P z => ih u (hv.2 u hu) z) z
    | _ => cases hv
end L07
set_option Elab.async false
set_option linter.all false
set_option maxRecDepth 100000
set_option maxHeartbeats 1000000
set_option autoImplicit false
namespace L07
open GH PySem
variable [TheWorld]
/-! the law's own run, accepts -/
theorem okV_chr {c : Nat} (h : c ≤ 122) : okV (.str [c]) = true := by
  simp [okV]
  omega
theorem okVs_nats : ∀ m : List Nat, okVs (m.map fun b : Nat => Val.int b) = true
  | [] => rfl
  | b :: m => by simp only [List.map_cons, okVs, okV, okVs_nats m, Bool.and_self]
theorem okV_sv {p : Nat × List Nat} (h : p.1 ≤ 122) : okV (sv p) = true := by
  have h1 := okV_chr h
  have h2 : okV (bv p.2) = true := okVs_nats p.2
  show okVs [.str [p.1], bv p.2] = true
  simp only [okVs, h1, h2, Bool.and_self]
theorem sg_mem {cs : List Nat} {t : Nat} {p : Nat × List Nat} (h : p ∈ sg cs t) : p.1 ∈ cs ∧ p.2 ∈ marks t := by
  obtain ⟨c, hc, h⟩ := List.mem_flatMap.mp h
  obtain ⟨m, hm, rfl⟩ := List.mem_map.mp h
  exact ⟨hc, hm⟩
theorem Ms.okv {M : Mc} (hM : M.ok) : ∀ {m : Ms}, m.good M.n M.S → okV m.val = true
  | .nil, _ => rfl
  | .one p a, ⟨_, hp, ha⟩ => by
    have h1 := okV_sv ((KS_len hM.cs).2.2.1 p.1 (sg_mem hp).1).2
    show okVs [sv p, a.val] = true
    simp only [okVs, h1, Ms.okv hM ha, Bool.and_self]
  | .two p a b, ⟨_, hp, ha, hb⟩ => by
    have h1 := okV_sv ((KS_len hM.cs).2.2.1 p.1 (sg_mem hp).1).2
    show okVs [sv p, a.val, b.val] = true
    simp only [okVs, h1, Ms.okv hM ha, Ms.okv hM hb, Bool.and_self]
theorem eq_nilT {L : List Val} {h : Hv} (o : okV (.tup L) = true) : vEq (.tup L) (.tup []) h = .ok (.bl L.isEmpty) h := by
  have e1 : eqOk (.tup L) (.tup []) = true := by
    have : dpV (.tup []) = 1 := rfl
    have q : min (dpV (.tup L)) (dpV (.tup [])) ≤ 190 := Nat.le_trans (Nat.min_le_right ..) (by rw [this]; decide)
    unfold eqOk
    rw [o]
    exact decide_eq_true q
  cases L with
  | nil => rfl
  | cons v L =>
    show (if eqOk (.tup (v :: L)) (.tup []) then Res.ok (Val.bl (veq (.tup (v :: L)) (.tup []))) h else .fail) = _
    rw [if_pos e1]
    rfl
theorem run_eq {M : Mc} (hM : M.ok) {i : Nat} {ld : List (Val × Val)} (rd : RD M.S ld) {h : Hv} (hi : h[i]? = some (.dn ld)) : ∀ (m : Ms) {k : Nat}, m.good M.n M.S → lev D (k + m.size + 2) 23 [M.val, m.val, .ref i] h = .ok (.int (m.st M.T M.S)) h := by
  -- a node, from its children
  have node : ∀ (m : Ms) (p : Nat × List Nat) (ss : List Nat) (k : Nat), m.val = .tup (sv p :: m.ch.map Ms.val) → m.good M.n M.S → p ∈ M.S → M.n = m.ch.length → (∀ c ∈ ss, c < M.q) → (∃ F : Ms → Nat, ss = m.ch.map F ∧ ∀ c ∈ m.ch, lev D (k + 1) 23 [M.val, c.val, .ref i] h = .ok (.int (F c)) h) →
      lev D (k + 2) 23 [M.val, m.val, .ref i] h = .ok (.int (ab M.T ((lix M.S p).getD 0) ss)) h := by
    intro m p ss k ev hg hp hn hss ⟨F, es, hF⟩
    subst es
    obtain ⟨r, row, er, hr, rw_⟩ := hM.tab.at hp
    have ov := Ms.okv hM hg
    rw [ev] at ov
    show runDef 4 (b__law_run (lev D (k + 1))) [M.val, m.val, .ref i] h = _
    rw [ev]
    refine run_rt ?_
    show b__law_run (lev D (k + 1)) [some M.val, some (.tup (sv p :: m.ch.map Ms.val)), some (.ref i), none] h = _
    unfold b__law_run
    rw [if_f (h1 := h) (by
      rw [e_b, e_bin, dv rfl, Res.bind_ok, e_tup, e_nil, Res.bind_ok, mkT_ok (by simp), Res.bind_ok, eq_nilT ov]
      rfl)]
    refine ret_eq ?_
    have ec : dLc frozen [3] (iSeq (dCut (dVar 1) (oSome (dC (.int 1))) oNone)) (gName 3) dYes (dCall (lev D (k + 1) 23) (dCons (dVar 0) (dCons (dVar 3) (dCons (dVar 2) dNil)))) [some M.val, some (.tup (sv p :: m.ch.map Ms.val)), some (.ref i), none] h = .ok (.lst (m.ch.map fun c => Val.int (F c))) h := by
      refine dlc_eq Ms.val (fun c => Val.int (F c)) m.ch ?_ fun c hc => ⟨[some M.val, some (.tup (sv p :: m.ch.map Ms.val)), some (.ref i), some c.val], rfl, ?_⟩
      · rw [e_iseq, e_cut, dv rfl, Res.bind_ok, show oSome (dC (.int 1)) [some M.val, some (.tup (sv p :: m.ch.map Ms.val)), some (.ref i), none] h = .ok (some ((1 : Nat) : Int)) h from rfl, Res.bind_ok, e_onone, Res.bind_ok]
        show (Res.ok (Val.tup (cut (sv p :: m.ch.map Ms.val) (some ((1 : Nat) : Int)) none)) h).bind vIter = _
        rw [cut_drop, Res.bind_ok, vIter_tup]
        rfl
      · rw [e_call, e_cons, dv rfl, Res.bind_ok, e_cons, dv rfl, Res.bind_ok, e_cons, dv rfl, Res.bind_ok, e_nil, Res.bind_ok, Res.bind_ok, Res.bind_ok, Res.bind_ok]
        exact hF c hc
    rw [e_call, e_cons, dv rfl, Res.bind_ok, e_cons, e_bin, dv rfl, Res.bind_ok, e_bin, dv rfl, Res.bind_ok, e_c, Res.bind_ok, t0, Res.bind_ok, ixN_eq hi (keyOk_sv p) (by rw [rd.get, er]; rfl), Res.bind_ok, e_cons]
    rw [ec, Res.bind_ok, e_nil, Res.bind_ok, Res.bind_ok, Res.bind_ok, Res.bind_ok, er]
    have := G7_eq hM (k := k) (j := 22) (j22 k) r row (m.ch.map F) h hr (by rw [List.length_map, ← hn]; exact rw_) hss
    rw [List.map_map] at this
    exact this
  intro m
  induction m with
  | nil =>
    intro k hm
    show runDef 4 (b__law_run (lev D (k + 1))) [M.val, .tup [], .ref i] h = _
    refine run_rt ?_
    show b__law_run (lev D (k + 1)) [some M.val, some (.tup []), some (.ref i), none] h = _
    unfold b__law_run
    rw [if_t (h1 := h) (by rfl), ret_eq (v := .int 0) (h1 := h) rfl]
    rfl
  | one p a ia =>
    intro k hm
    obtain ⟨hn, hp, ha⟩ := hm
    have := node (.one p a) p [a.st M.T M.S] (k + a.size + 1) rfl ⟨hn, hp, ha⟩ hp hn (by simpa using Ms.st_lt hM.tab ha) ⟨fun c => c.st M.T M.S, rfl, fun c hc => by
      rw [List.mem_singleton.mp hc]
      exact ia ha⟩
    exact this
  | two p a b ia ib =>
    intro k hm
    obtain ⟨hn, hp, ha, hb⟩ := hm
    have := node (.two p a b) p [a.st M.T M.S, b.st M.T M.S] (k + (a.size + b.size) + 1) rfl ⟨hn, hp, ha, hb⟩ hp hn (by simpa using ⟨Ms.st_lt hM.tab ha, Ms.st_lt hM.tab hb⟩) ⟨fun c => c.st M.T M.S, rfl, fun c hc => by
      simp only [Ms.ch, List.mem_cons, List.not_mem_nil, or_false] at hc
      rcases hc with rfl | rfl
      · rw [show k + (c.size + b.size) + 1 + 1 = (k + b.size) + c.size + 2 by omega]; exact ia ha
      · rw [show k + (a.size + c.size) + 1 + 1 = (k + a.size) + c.size + 2 by omega]; exact ib hb⟩
    exact this
theorem accepts_eq {M : Mc} (hM : M.ok) {k : Nat} {m : Ms} {h : Hv} (hm : m.good M.n M.S) (n : m.size < 1000) : ∃ b, M.good[m.st M.T M.S]? = some b ∧ lev D (k + 5) 9 [M.val, m.val] h = .ok (.bl b) h := by
  have lt := Ms.st_lt hM.tab hm
  rw [← hM.gl] at lt
  refine ⟨_, List.getElem?_eq_getElem lt, ?_⟩
  show runDef 2 (b_accepts (lev D (k + 4))) [M.val, m.val] h = _
  refine run_rt ?_
  show b_accepts (lev D (k + 4)) [some M.val, some m.val] h = _
  unfold b_accepts
  refine ret_eq ?_
  rw [e_bin, e_bin, dv rfl, Res.bind_ok, e_c, Res.bind_ok, show vIx M.val (.int 3) h = .ok (.tup (M.good.map .bl)) h from t3 .., Res.bind_ok, e_call, e_cons, dv rfl, Res.bind_ok, e_cons, dv rfl, Res.bind_ok, e_nil, Res.bind_ok, Res.bind_ok, Res.bind_ok, state_eq hM hm n, Res.bind_ok]
  exact vIx_tup (nth_nat (by rw [List.getElem?_map, List.getElem?_eq_getElem lt]; rfl))
end L07
set_option Elab.async false
set_option linter.all false
set_option maxRecDepth 100000
set_option maxHeartbeats 1000000
set_option autoImplicit false
namespace L07
open GH PySem
variable [TheWorld]
/-! shapes and their marks -/
inductive Sh where
  | nil | one (c : Nat) (a : Sh) | two (c : Nat) (a b : Sh)
namespace Sh
def val : Sh → Val
  | nil => .tup []
  | one c a => .tup [.str [c], a.val]
  | two c a b => .tup [.str [c], a.val, b.val]
def ch : Sh → List Sh
  | nil => []
  | one _ a => [a]
  | two _ a b => [a, b]
def size : Sh → Nat
  | nil => 0
  | one _ a => a.size + 1
  | two _ a b => a.size + b.size + 1
def good (n : Nat) (cs : List Nat) : Sh → Prop
  | nil => True
  | one c a => n = 1 ∧ c ∈ cs ∧ a.good n cs
  | two c a b => n = 2 ∧ c ∈ cs ∧ a.good n cs ∧ b.good n cs
theorem okv {n : Nat} {cs : List Nat} (hc : ∀ c ∈ cs, c ≤ 122) : ∀ {s : Sh}, s.good n cs → okV s.val = true
  | nil, _ => rfl
  | one c a, ⟨_, h, ha⟩ => by
    show okVs [.str [c], a.val] = true
    simp only [okVs, okV_chr (hc c h), okv hc ha, Bool.and_self]
  | two c a b, ⟨_, h, ha, hb⟩ => by
    show okVs [.str [c], a.val, b.val] = true
    simp only [okVs, okV_chr (hc c h), okv hc ha, okv hc hb, Bool.and_self]
end Sh
abbrev Sets := List (List (List Int))
def bits (X : Sets) (p : List Int) : List Nat := X.map fun s => if p ∈ s then 1 else 0
def mkM (X : Sets) : Sh → List Int → Ms
  | .nil, _ => .nil
  | .one c a, p => .one (c, bits X p) (mkM X a (p ++ [0]))
  | .two c a b, p => .two (c, bits X p) (mkM X a (p ++ [0])) (mkM X b (p ++ [1]))
theorem mkM_size (X : Sets) : ∀ (s : Sh) (p : List Int), (mkM X s p).size = s.size
  | .nil, _ => rfl
  | .one c a, p => by simp only [mkM, Ms.size, Sh.size, mkM_size X a]
  | .two c a b, p => by simp only [mkM, Ms.size, Sh.size, mkM_size X a, mkM_size X b]
theorem bits_marks : ∀ (X : Sets) (p : List Int), bits X p ∈ marks X.length := by
  intro X p
  refine snoc_ind (P := fun X => bits X p ∈ marks X.length) (List.mem_singleton.mpr rfl) (fun X s ih => ?_) X
  rw [List.length_append]
  refine List.mem_flatMap.mpr ⟨bits X p, ih, ?_⟩
  simp only [bits, List.map_append, List.map_cons, List.map_nil]
  by_cases c : p ∈ s <;> simp [c]
theorem mkM_good {n : Nat} {cs : List Nat} {X : Sets} : ∀ {s : Sh} {p : List Int}, s.good n cs → (mkM X s p).good n (sg cs X.length)
  | .nil, _, _ => trivial
  | .one c a, p, ⟨hn, h, ha⟩ => ⟨hn, List.mem_flatMap.mpr ⟨c, h, List.mem_map.mpr ⟨_, bits_marks X p, rfl⟩⟩, mkM_good ha⟩
  | .two c a b, p, ⟨hn, h, ha, hb⟩ => ⟨hn, List.mem_flatMap.mpr ⟨c, h, List.mem_map.mpr ⟨_, bits_marks X p, rfl⟩⟩, mkM_good ha, mkM_good hb⟩
theorem pv_snoc (p : List Int) (i : Int) (hp : p.length ≤ 100) (h : Hv) : vAdd (pv p) (.tup [.int i]) h = .ok (pv (p ++ [i])) h := by
  rw [show pv p = .tup (p.map .int) from rfl, add_tup (by simp; omega)]
  simp [pv]
/-! over any source -/
theorem dlcO_eq {α : Type} {vs : List Nat} {di : DenG Src} {t : Tg} {e : Den} {l : GH.Loc} {h : Hv} {o : Option Nat} (V G : α → Val) (L : List α) (ed : di l h = .ok (L.map V, o) h) (so : srcOk (L.map V, o) h) (q : ∀ p ∈ L, ∃ l1, t (V p) (wipeL l vs) h = .ok l1 h ∧ e l1 h = .ok (G p) h) : dLc frozen vs di t dYes e l h = .ok (.lst (L.map G)) h := by
  unfold dLc
  rw [ed, Res.bind_ok, lcL_mapL V G so L [] q]
  rfl
theorem lcL_grow {α : Type} (V : α → Val) (O : α → Ob) {t : Tg} {e : Den} {s : Src} {l : GH.Loc} {h0 : Hv} (so : ∀ g, srcOk s (h0 ++ g)) : ∀ (L : List α) (g : Hv) (acc : List Val), (∀ x ∈ L, ∀ g, ∃ l1, t (V x) l (h0 ++ g) = .ok l1 (h0 ++ g) ∧ e l1 (h0 ++ g) = .ok (.ref (h0 ++ g).length) (h0 ++ g ++ [O x])) →
    lcL t dYes e s (L.map V) acc l (h0 ++ g) = .ok (acc ++ (List.range' (h0.length + g.length) L.length).map Val.ref) (h0 ++ (g ++ L.map O))
  | [], g, acc, _ => by simp [lcL, so g]
  | x :: L, g, acc, q => by
    obtain ⟨l1, e1, e2⟩ := q x (List.mem_cons_self ..) g
    have ih := lcL_grow V O so L (g ++ [O x]) (acc ++ [.ref (h0 ++ g).length]) fun y hy => q y (List.mem_cons_of_mem _ hy)
    simp only [List.map_cons, lcL, so g, if_true, e1, e_yes, e2]
    rw [List.append_assoc, ih]
    simp [List.range'_succ, Nat.add_assoc]
/-! the law's own marks -/
theorem tv_in {p : List Int} {s : List (List Int)} {h : Hv} : vIn (pv p) (tv s) h = .ok (.bl (decide (p ∈ s))) h := vIn_pv p s h
theorem b01 {c : Bool} : (if c = true then (.ok (.int 1) : Hv → Res Val) else fun h => .ok (.int 0) h) = fun h => Res.ok (Val.int (if c = true then 1 else 0)) h := by cases c <;> rfl
theorem lm_eq {X : Sets} {j : Nat} {h : Hv} (hj : h[j]? = some (.lst (X.map tv))) {n : Nat} {cs : List Nat} (hc : ∀ c ∈ cs, c ≤ 122) : ∀ (s : Sh) {k : Nat} {p : List Int}, s.good n cs → p.length + s.size ≤ 100 → lev D (k + s.size + 1) 25 [s.val, pv p, .ref j] h = .ok (mkM X s p).val h := by
  have node : ∀ (s : Sh) (c : Nat) (k : Nat) (p : List Int) (F : List Ms), s.good n cs → s.val = .tup (.str [c] :: s.ch.map Sh.val) → p.length ≤ 100 → s.ch.length ≤ 2 → F.length = s.ch.length → (∀ (i : Nat) (c : Sh), s.ch[i]? = some c → ∃ f, F[i]? = some f ∧ lev D k 25 [c.val, pv (p ++ [(i : Int)]), .ref j] h = .ok f.val h) →
      lev D (k + 1) 25 [s.val, pv p, .ref j] h = .ok (.tup (sv (c, bits X p) :: F.map Ms.val)) h := by
    intro s c k p F hg ev hp hl hF q
    have ov := Sh.okv hc hg
    rw [ev] at ov
    show runDef 6 (b__law_marked (lev D k)) [s.val, pv p, .ref j] h = _
    rw [ev]
    refine run_rt ?_
    show b__law_marked (lev D k) [some (.tup (.str [c] :: s.ch.map Sh.val)), some (pv p), some (.ref j), none, none, none] h = _
    unfold b__law_marked
    rw [if_f (h1 := h) (by
      rw [e_b, e_bin, dv rfl, Res.bind_ok, e_tup, e_nil, Res.bind_ok, mkT_ok (by simp), Res.bind_ok, eq_nilT ov]
      rfl)]
    have e1 : dLc frozen [4] (iSeq (dVar 2)) (gName 4) dYes (dIf (dB (dBin vIn (dVar 1) (dVar 4))) (dC (.int 1)) (dC (.int 0))) [some (.tup (.str [c] :: s.ch.map Sh.val)), some (pv p), some (.ref j), none, none, none] h = .ok (.lst ((bits X p).map fun b : Nat => Val.int b)) h := by
      rw [bits, List.map_map]
      refine dlcO_eq (o := some j) tv ((fun b : Nat => Val.int b) ∘ fun s => if p ∈ s then 1 else 0) X ?_ hj fun s hs => ⟨[some _, some (pv p), some (.ref j), none, some (tv s), none], rfl, ?_⟩
      · rw [e_iseq, dv rfl, Res.bind_ok]
        simp only [vIter, hj]
      · rw [e_dif, e_b, e_bin, dv rfl, Res.bind_ok, dv rfl, Res.bind_ok, tv_in, resB_bl, Res.bind_ok]
        by_cases m : p ∈ s <;> simp [m]
    rw [set_eq (v := sv (c, bits X p)) (h1 := h) (by
      rw [e_tup, e_cons, e_bin, dv rfl, Res.bind_ok, e_c, Res.bind_ok, t0, Res.bind_ok, e_cons, e_fn, e1, Res.bind_ok, vTuple_lst, Res.bind_ok, e_nil, Res.bind_ok, Res.bind_ok, Res.bind_ok, mkT_ok (by simp)])]
    refine ret_eq ?_
    have e2 : dLc frozen [5] (iRange2 (dC (.int 1)) (dLen (dVar 0))) (gName 5) dYes (dCall (lev D k 25) (dCons (dBin vIx (dVar 0) (dVar 5)) (dCons (dBin vAdd (dVar 1) (dTup (dCons (dBin vSub (dVar 5) (dC (.int 1))) dNil))) (dCons (dVar 2) dNil)))) [some (.tup (.str [c] :: s.ch.map Sh.val)), some (pv p), some (.ref j), some (sv (c, bits X p)), none, none] h = .ok (.lst (F.map Ms.val)) h := by
      have e3 : F.map Ms.val = (List.range s.ch.length).map fun i => ((F[i]?).getD .nil).val := by
        apply List.ext_getElem?
        intro i
        rw [List.getElem?_map, List.getElem?_map]
        by_cases hi : i < F.length
        · rw [List.getElem?_eq_getElem hi, List.getElem?_range (by omega)]
          simp [hi]
        · rw [List.getElem?_eq_none (by omega), List.getElem?_eq_none (by simp; omega)]
          rfl
      rw [e3]
      refine dlcO_eq (o := none) (fun i : Nat => Val.int ((i : Int) + 1)) _ (List.range s.ch.length) ?_ trivial fun i hi => ?_
      · rw [e_rng2, e_c, Res.bind_ok, e_len, dv rfl, Res.bind_ok, vLen_tup, Res.bind_ok, vRange2_ok (by omega) (by omega) (by simp; omega) (by simp; omega) (by simp; omega)]
        congr 2
        simp only [rangeL, List.length_cons, List.length_map]
        rw [show (((s.ch.length + 1 : Nat) : Int) - 1).toNat = s.ch.length by omega]
        exact List.map_congr_left fun i _ => by rw [Int.add_comm]
      · have hi := List.mem_range.mp hi
        obtain ⟨f, hf, ef⟩ := q i _ (List.getElem?_eq_getElem hi)
        refine ⟨[some (.tup (.str [c] :: s.ch.map Sh.val)), some (pv p), some (.ref j), some (sv (c, bits X p)), none, some (.int ((i : Int) + 1))], rfl, ?_⟩
        rw [e_call, e_cons, e_bin, dv rfl, Res.bind_ok, dv rfl, Res.bind_ok, vIx_tup (v := (s.ch[i]).val) (by
          rw [show ((i : Int) + 1) = ((i + 1 : Nat) : Int) by omega]
          exact nth_nat (by rw [List.getElem?_cons_succ, List.getElem?_map, List.getElem?_eq_getElem hi]; rfl)), Res.bind_ok, e_cons, e_bin, dv rfl, Res.bind_ok, e_tup, e_cons, e_bin, dv rfl, Res.bind_ok, e_c, Res.bind_ok, vSub_int, Res.bind_ok, e_nil, Res.bind_ok, Res.bind_ok, mkT_ok (by simp), Res.bind_ok,
          show (i : Int) + 1 - 1 = i by omega, pv_snoc p i (by omega) h, Res.bind_ok, e_cons, dv rfl, Res.bind_ok, e_nil, Res.bind_ok, Res.bind_ok, Res.bind_ok, Res.bind_ok, ef, hf]
        rfl
    rw [e_bin, e_tup, e_cons, dv rfl, Res.bind_ok, e_nil, Res.bind_ok, Res.bind_ok, mkT_ok (by simp), Res.bind_ok, e_fn]
    refine (congrArg (fun r : Res Val => (r.bind vTuple).bind fun u h2 => vAdd (.tup [sv (c, bits X p)]) u h2) e2).trans ?_
    rw [Res.bind_ok, vTuple_lst, Res.bind_ok, add_tup (by simp; omega)]
    rfl
  intro s
  induction s with
  | nil =>
    intro k p _ _
    show runDef 6 (b__law_marked (lev D k)) [.tup [], pv p, .ref j] h = _
    refine run_rt ?_
    show b__law_marked (lev D k) [some (.tup []), some (pv p), some (.ref j), none, none, none] h = _
    unfold b__law_marked
    rw [if_t (h1 := h) (by rfl), ret_eq (v := .tup []) (h1 := h) rfl]
    rfl
  | one c a ia =>
    intro k p hg hp
    simp only [Sh.size] at hp
    refine node (.one c a) c (k + a.size + 1) p [mkM X a (p ++ [0])] hg rfl (by omega) (by simp [Sh.ch]) rfl fun i c' e => ?_
    match i, e with
    | 0, e => cases e; exact ⟨_, rfl, ia hg.2.2 (by simp; omega)⟩
    | i + 1, e => simp [Sh.ch] at e
  | two c a b ia ib =>
    intro k p hg hp
    simp only [Sh.size] at hp
    refine node (.two c a b) c (k + (a.size + b.size) + 1) p [mkM X a (p ++ [0]), mkM X b (p ++ [1])] hg rfl (by omega) (by simp [Sh.ch]) rfl fun i c' e => ?_
    match i, e with
    | 0, e => cases e; exact ⟨_, rfl, by rw [show k + (a.size + b.size) + 1 = (k + b.size) + a.size + 1 by omega]; exact ia hg.2.2.1 (by simp; omega)⟩
    | 1, e => cases e; exact ⟨_, rfl, by rw [show k + (a.size + b.size) + 1 = (k + a.size) + b.size + 1 by omega]; exact ib hg.2.2.2 (by simp; omega)⟩
    | i + 2, e => simp [Sh.ch] at e
end L07
set_option Elab.async false
set_option linter.all false
set_option maxRecDepth 100000
set_option maxHeartbeats 1000000
set_option autoImplicit false
namespace L07
open GH PySem
variable [TheWorld]
/-! the package's marks -/
def DP (s : List (List Int)) : List (Val × Val) := s.foldl (fun a p => dPutN a (pv p) (.bl true)) []
theorem DP_get (s : List (List Int)) (p : List Int) : (dGetN (DP s) (pv p)).isSome = decide (p ∈ s) := by
  refine snoc_ind (P := fun s => (dGetN (DP s) (pv p)).isSome = decide (p ∈ s)) rfl (fun s q ih => ?_) s
  rw [show DP (s ++ [q]) = dPutN (DP s) (pv q) (.bl true) by simp [DP], dGetN_put, kEqN_pv]
  by_cases c : q = p
  · subst c; simp
  · rw [if_neg (by simpa using c), ih]
    have : ¬ p = q := fun z => c z.symm
    simp [this]
theorem keyOk_pv (p : List Int) : keyOk (pv p) = true := by
  have := keyN_pv p
  unfold keyOk
  simp only [pv] at this ⊢
  rw [this]
  simp only [NestedKey.depth]
  have := depth_nums p
  exact decide_eq_true (by omega)
theorem mp_eq {X : Sets} {b : Nat} {h : Hv} (hb : ∀ (i : Nat) s, X[i]? = some s → h[b + i]? = some (.dn (DP s))) {n : Nat} {cs : List Nat} (hc : ∀ c ∈ cs, c ≤ 122) : ∀ (s : Sh) {k : Nat} {p : List Int}, s.good n cs → p.length + s.size ≤ 100 →
    lev D (k + s.size + 1) 11 [s.val, pv p, .lst ((List.range' b X.length).map .ref)] h = .ok (mkM X s p).val h := by
  have node : ∀ (s : Sh) (c : Nat) (k : Nat) (p : List Int) (F : List Ms), s.good n cs → s.val = .tup (.str [c] :: s.ch.map Sh.val) → p.length ≤ 100 → s.ch.length ≤ 2 → F.length = s.ch.length → (∀ (i : Nat) (c : Sh), s.ch[i]? = some c → ∃ f, F[i]? = some f ∧ lev D k 11 [c.val, pv (p ++ [(i : Int)]), .lst ((List.range' b X.length).map .ref)] h = .ok f.val h) →
      lev D (k + 1) 11 [s.val, pv p, .lst ((List.range' b X.length).map .ref)] h = .ok (.tup (sv (c, bits X p) :: F.map Ms.val)) h := by
    intro s c k p F hg ev hp hl hF q
    obtain ⟨R, eR⟩ : ∃ R, Val.lst ((List.range' b X.length).map .ref) = R := ⟨_, rfl⟩
    rw [eR] at q
    show runDef 8 (b_mark_part (lev D k)) [s.val, pv p, _] h = _
    rw [ev, eR]
    refine run_rt ?_
    show b_mark_part (lev D k) [some (.tup (.str [c] :: s.ch.map Sh.val)), some (pv p), some R, none, none, none, none, none] h = _
    unfold b_mark_part
    rw [if_f (h1 := h) (by
      show (dTru (dVar 0) _ _).bind _ = _
      rw [e_tru, dv rfl, Res.bind_ok, tru_tup, Res.bind_ok]
      rfl)]
    have e1 : dLc frozen [7] (iSeq (dVar 2)) (gName 7) dYes (dIf (dB (dBin vInN (dVar 1) (dVar 7))) (dC (.int 1)) (dC (.int 0))) [some (.tup (.str [c] :: s.ch.map Sh.val)), some (pv p), some R, none, none, none, none, none] h = .ok (.lst ((bits X p).map fun b : Nat => Val.int b)) h := by
      have e2 : (bits X p).map (fun b : Nat => Val.int b) = (List.range' b X.length).map fun r => Val.int (if p ∈ (X[r - b]?).getD [] then 1 else 0) := by
        apply List.ext_getElem?
        intro i
        rw [bits, List.map_map, List.getElem?_map, List.getElem?_map]
        by_cases hi : i < X.length
        · rw [List.getElem?_eq_getElem hi, List.getElem?_eq_getElem (by simp; omega)]
          have : b + i - b = i := by omega
          simp only [Option.map_some, List.getElem_range', Nat.one_mul, this, List.getElem?_eq_getElem hi, Option.getD_some, Function.comp]
          by_cases m : p ∈ X[i] <;> simp [m]
        · rw [List.getElem?_eq_none (by omega), List.getElem?_eq_none (by simp; omega)]
          rfl
      rw [e2]
      refine dlcO_eq (o := none) Val.ref _ (List.range' b X.length) ?_ trivial fun r hr => ⟨[some (.tup (.str [c] :: s.ch.map Sh.val)), some (pv p), some R, none, none, none, none, some (.ref r)], rfl, ?_⟩
      · rw [e_iseq, dv rfl, Res.bind_ok, ← eR, vIter_lst]
      · obtain ⟨i, hi, rfl⟩ : ∃ i, i < X.length ∧ r = b + i := by
          obtain ⟨i, hi, e⟩ := List.mem_range'.mp hr
          exact ⟨i, hi, by omega⟩
        have hx := hb i _ (List.getElem?_eq_getElem hi)
        rw [e_dif, e_b, e_bin, dv rfl, Res.bind_ok, dv rfl, Res.bind_ok, inN_eq hx (keyOk_pv p), DP_get, resB_bl, Res.bind_ok]
        have : b + i - b = i := by omega
        rw [this, List.getElem?_eq_getElem hi, Option.getD_some]
        by_cases m : p ∈ X[i] <;> simp [m]
    rw [set_eq (v := sv (c, bits X p)) (h1 := h) (by
      rw [e_tup, e_cons, e_bin, dv rfl, Res.bind_ok, e_c, Res.bind_ok, t0, Res.bind_ok, e_cons, e_fn, e1, Res.bind_ok, vTuple_lst, Res.bind_ok, e_nil, Res.bind_ok, Res.bind_ok, Res.bind_ok, mkT_ok (by simp)])]
    show sSeq _ _ [some (.tup (.str [c] :: s.ch.map Sh.val)), some (pv p), some R, some (sv (c, bits X p)), none, none, none, none] h = _
    have e2 : dLc frozen [5, 6] (iEnumG (dCut (dVar 0) (oSome (dC (.int 1))) oNone)) (gTup 2 (gsCons (gName 5) (gsCons (gName 6) gsNil))) dYes (dCall (lev D k 11) (dCons (dVar 6) (dCons (dBin vAdd (dVar 1) (dTup (dCons (dVar 5) dNil))) (dCons (dVar 2) dNil)))) [some (.tup (.str [c] :: s.ch.map Sh.val)), some (pv p), some R, some (sv (c, bits X p)), none, none, none, none] h = .ok (.lst (F.map Ms.val)) h := by
      have e3 : F.map Ms.val = s.ch.zipIdx.map fun x => ((F[x.2]?).getD .nil).val := by
        apply List.ext_getElem?
        intro i
        rw [List.getElem?_map, List.getElem?_map]
        by_cases hi : i < F.length
        · rw [List.getElem?_eq_getElem hi, List.getElem?_eq_getElem (by simp; omega)]
          simp [hi]
        · rw [List.getElem?_eq_none (by omega), List.getElem?_eq_none (by simp; omega)]
          rfl
      rw [e3]
      refine dlcO_eq (o := none) (fun x : Sh × Nat => .tup [.int (x.2 : Nat), x.1.val]) _ s.ch.zipIdx ?_ trivial fun x hx => ?_
      · rw [e_enum, e_cut, dv rfl, Res.bind_ok, show oSome (dC (.int 1)) [some (.tup (.str [c] :: s.ch.map Sh.val)), some (pv p), some R, some (sv (c, bits X p)), none, none, none, none] h = .ok (some ((1 : Nat) : Int)) h from rfl, Res.bind_ok, e_onone, Res.bind_ok]
        show (Res.ok (Val.tup (cut (.str [c] :: s.ch.map Sh.val) (some ((1 : Nat) : Int)) none)) h).bind vEnum = _
        rw [cut_drop, Res.bind_ok]
        show Res.ok (enumL (s.ch.map Sh.val), none) h = _
        rw [enum_map]
      · have hx' := List.mem_zipIdx_iff_getElem?.mp hx
        obtain ⟨f, hf, ef⟩ := q x.2 x.1 hx'
        refine ⟨[some (.tup (.str [c] :: s.ch.map Sh.val)), some (pv p), some R, some (sv (c, bits X p)), none, some (.int (x.2 : Nat)), some x.1.val, none], rfl, ?_⟩
        rw [e_call, e_cons, dv rfl, Res.bind_ok, e_cons, e_bin, dv rfl, Res.bind_ok, e_tup, e_cons, dv rfl, Res.bind_ok, e_nil, Res.bind_ok, Res.bind_ok, mkT_ok (by simp), Res.bind_ok, pv_snoc p x.2 (by omega) h, Res.bind_ok, e_cons, dv rfl, Res.bind_ok, e_nil, Res.bind_ok, Res.bind_ok, Res.bind_ok, Res.bind_ok, ef, hf]
        rfl
    rw [set_eq (v := .lst (F.map Ms.val)) (h1 := h) e2]
    refine ret_eq ?_
    rw [e_bin, e_tup, e_cons, dv rfl, Res.bind_ok, e_nil, Res.bind_ok, Res.bind_ok, mkT_ok (by simp), Res.bind_ok, e_fn, dv rfl, Res.bind_ok, vTuple_lst, Res.bind_ok, add_tup (by simp; omega)]
    rfl
  intro s
  induction s with
  | nil =>
    intro k p _ _
    obtain ⟨R, eR⟩ : ∃ R, Val.lst ((List.range' b X.length).map .ref) = R := ⟨_, rfl⟩
    rw [eR]
    show runDef 8 (b_mark_part (lev D k)) [.tup [], pv p, R] h = _
    refine run_rt ?_
    show b_mark_part (lev D k) [some (.tup []), some (pv p), some R, none, none, none, none, none] h = _
    unfold b_mark_part
    rw [if_t (h1 := h) (by rfl), ret_eq (v := .tup []) (h1 := h) rfl]
    rfl
  | one c a ia =>
    intro k p hg hp
    simp only [Sh.size] at hp
    refine node (.one c a) c (k + a.size + 1) p [mkM X a (p ++ [0])] hg rfl (by omega) (by simp [Sh.ch]) rfl fun i c' e => ?_
    match i, e with
    | 0, e => cases e; exact ⟨_, rfl, ia hg.2.2 (by simp; omega)⟩
    | i + 1, e => simp [Sh.ch] at e
  | two c a b ia ib =>
    intro k p hg hp
    simp only [Sh.size] at hp
    refine node (.two c a b) c (k + (a.size + b.size) + 1) p [mkM X a (p ++ [0]), mkM X b (p ++ [1])] hg rfl (by omega) (by simp [Sh.ch]) rfl fun i c' e => ?_
    match i, e with
    | 0, e => cases e; exact ⟨_, rfl, by rw [show k + (a.size + b.size) + 1 = (k + b.size) + a.size + 1 by omega]; exact ia hg.2.2.1 (by simp; omega)⟩
    | 1, e => cases e; exact ⟨_, rfl, by rw [show k + (a.size + b.size) + 1 = (k + a.size) + b.size + 1 by omega]; exact ib hg.2.2.2 (by simp; omega)⟩
    | i + 2, e => simp [Sh.ch] at e
theorem mark_eq {X : Sets} {j : Nat} {h : Hv} (hj : h[j]? = some (.lst (X.map tv))) {n : Nat} {cs : List Nat} (hc : ∀ c ∈ cs, c ≤ 122) {s : Sh} {k : Nat} (hg : s.good n cs) (hs : s.size ≤ 100) (ok_ : okV (mkM X s []).val = true) : lev D (k + s.size + 2) 10 [s.val, .ref j] h = .ok (mkM X s []).val h := by
  refine tidy_okE (g := X.map fun s => .dn (DP s)) (run_rt ?_) ok_
  show b_mark (lev D (k + s.size + 1)) [some s.val, some (.ref j), none, none, none] h = _
  unfold b_mark
  have e1 : dLc frozen [3] (iSeq (dVar 1)) (gName 3) dYes (dDcN [4] (iSeq (dVar 3)) (gName 4) dYes (dVar 4) (dC (.bl true))) [some s.val, some (.ref j), none, none, none] h = .ok (.lst ((List.range' h.length X.length).map .ref)) (h ++ X.map fun s => .dn (DP s)) := by
    unfold dLc
    rw [show iSeq (dVar 1) [some s.val, some (.ref j), none, none, none] h = .ok (X.map tv, some j) h by rw [e_iseq, dv rfl, Res.bind_ok]; simp only [vIter, hj], Res.bind_ok]
    have so : ∀ g, srcOk (X.map tv, some j) (h ++ g) := fun g => by
      show (h ++ g)[j]? = _
      rw [List.getElem?_append_left (List.getElem?_eq_some_iff.mp hj).1]
      exact hj
    have q := lcL_grow (t := gName 3) (e := dDcN [4] (iSeq (dVar 3)) (gName 4) dYes (dVar 4) (dC (.bl true))) (l := [some s.val, some (.ref j), none, none, none]) tv (fun s => .dn (DP s)) so X [] [] fun x hx g => ⟨[some s.val, some (.ref j), none, some (tv x), none], rfl, dcN_eq pv pv (fun _ => .bl true) x rfl fun p hp => ⟨[some s.val, some (.ref j), none, some (tv x), some (pv p)], rfl, rfl, rfl, keyOk_pv p⟩⟩
    rw [List.append_nil] at q
    refine (congrArg (fun r : Res (List Val) => r.bind frozen) q).trans ?_
    simp [frozen]
  rw [set_eq (v := .lst ((List.range' h.length X.length).map .ref)) (h1 := h ++ X.map fun s => .dn (DP s)) e1]
  refine ret_eq ?_
  rw [e_call, e_cons, dv rfl, Res.bind_ok, e_cons, e_tup, e_nil, Res.bind_ok, mkT_ok (by simp), Res.bind_ok, e_cons, dv rfl, Res.bind_ok, e_nil, Res.bind_ok, Res.bind_ok, Res.bind_ok, Res.bind_ok]
  exact mp_eq (p := []) (b := h.length) (fun i s e => by rw [get_at, List.getElem?_map, e]; rfl) hc s hg (by simp; omega)
end L07
set_option Elab.async false
set_option linter.all false
set_option maxRecDepth 100000
set_option maxHeartbeats 1000000
set_option autoImplicit false
namespace L07
open GH PySem
variable [TheWorld]
/-! what is drawn, as equations -/
theorem take_ex {k m : Nat} {o : Ob} {g : Hv} (ho : TapeOb o) (hm : 0 < m) (hm2 : m < 1000000) : ∃ (r : Nat) (o' : Ob), r < m ∧ TapeOb o' ∧ lev D (k + 1) 14 [.ref 0, .int m] (o :: g) = .ok (.int r) (o' :: g) := by
  obtain ⟨v, h', e, r, o', h0, h1, h2, rfl, rfl⟩ := ok_eq (take_l (k := k) (m := m) (g := g) (P := fun v h => ∃ (r : Int) (o' : Ob), 0 ≤ r ∧ r < m ∧ TapeOb o' ∧ v = .int r ∧ h = o' :: g) ho (by omega) (by omega) fun r o' h0 h1 h2 => ⟨r, o', h0, h1, h2, rfl, rfl⟩)
  exact ⟨r.toNat, o', by omega, h2, by rw [e, Int.toNat_of_nonneg h0]⟩
/-- the tape lies first -/
def Tp (g h : Hv) : Prop := ∃ o, TapeOb o ∧ h = o :: g
theorem take_tp {k m : Nat} {g h : Hv} (t : Tp g h) (hm : 0 < m) (hm2 : m < 1000000) : ∃ (r : Nat) (h' : Hv), r < m ∧ Tp g h' ∧ lev D (k + 1) 14 [.ref 0, .int m] h = .ok (.int r) h' := by
  obtain ⟨o, ho, rfl⟩ := t
  obtain ⟨r, o', h1, h2, e⟩ := take_ex (k := k) (g := g) ho hm hm2
  exact ⟨r, _, h1, ⟨o', h2, rfl⟩, e⟩
theorem lcL_ex {α : Type} (V : α → Val) (Q : Val → Prop) {t : Tg} {e : Den} {s : Src} {l : GH.Loc} (I : Hv → Prop) (so : ∀ h, I h → srcOk s h) : ∀ (L : List α) (acc : List Val) (h : Hv), (∀ x ∈ L, ∀ h, I h → ∃ l1 v h', t (V x) l h = .ok l1 h ∧ e l1 h = .ok v h' ∧ Q v ∧ I h') → I h → (∀ v ∈ acc, Q v) →
    ∃ ys h', lcL t dYes e s (L.map V) acc l h = .ok ys h' ∧ ys.length = acc.length + L.length ∧ (∀ v ∈ ys, Q v) ∧ I h'
  | [], acc, h, _, i, q => ⟨acc, h, by simp [lcL, so h i], rfl, q, i⟩
  | x :: L, acc, h, st, i, q => by
    obtain ⟨l1, v, h1, e1, e2, qv, i1⟩ := st x (List.mem_cons_self ..) h i
    obtain ⟨ys, h', e3, e4, e5, e6⟩ := lcL_ex V Q I so L (acc ++ [v]) h1 (fun y hy => st y (List.mem_cons_of_mem _ hy)) i1 (by
      intro u hu
      rcases List.mem_append.mp hu with hu | hu
      · exact q u hu
      · rw [List.mem_singleton.mp hu]; exact qv)
    refine ⟨ys, h', ?_, by rw [e4]; simp; omega, e5, e6⟩
    simp only [List.map_cons, lcL, so h i, if_true, e1, e_yes, e2, e3]
theorem dlc_ex {α : Type} {vs : List Nat} {di : DenG Src} {t : Tg} {e : Den} {l : GH.Loc} {h : Hv} {o : Option Nat} (V : α → Val) (Q : Val → Prop) (I : Hv → Prop) (L : List α) (ed : di l h = .ok (L.map V, o) h) (so : ∀ h, I h → srcOk (L.map V, o) h) (i : I h) (st : ∀ x ∈ L, ∀ h, I h → ∃ l1 v h', t (V x) (wipeL l vs) h = .ok l1 h ∧ e l1 h = .ok v h' ∧ Q v ∧ I h') :
    ∃ ys h', dLc frozen vs di t dYes e l h = .ok (.lst ys) h' ∧ ys.length = L.length ∧ (∀ v ∈ ys, Q v) ∧ I h' := by
  obtain ⟨ys, h', e1, e2, e3, e4⟩ := lcL_ex V Q I so L [] h st i (fun v hv => by cases hv)
  refine ⟨ys, h', ?_, by simpa using e2, e3, e4⟩
  unfold dLc
  rw [ed, Res.bind_ok]
  show (lcL t dYes e _ (L.map V) [] _ h).bind frozen = _
  rw [e1]
  rfl
theorem lcF_ex {α : Type} (V : α → Val) {t : Tg} {c : DenG Bool} {e : Den} {s : Src} {l : GH.Loc} (I : Hv → Prop) (so : ∀ h, I h → srcOk s h) : ∀ (L acc : List α) (h : Hv), (∀ x ∈ L, ∀ h, I h → ∃ l1 b h', t (V x) l h = .ok l1 h ∧ c l1 h = .ok b h' ∧ I h' ∧ (b = true → e l1 h' = .ok (V x) h')) → I h →
    ∃ (ys : List α) (h' : Hv), lcL t c e s (L.map V) (acc.map V) l h = .ok (ys.map V) h' ∧ I h'
  | [], acc, h, _, i => ⟨acc, h, by simp [lcL, so h i], i⟩
  | x :: L, acc, h, st, i => by
    obtain ⟨l1, b, h1, e1, e2, i1, e3⟩ := st x (List.mem_cons_self ..) h i
    cases b with
    | true =>
      obtain ⟨ys, h', e4, i'⟩ := lcF_ex V I so L (acc ++ [x]) h1 (fun y hy => st y (List.mem_cons_of_mem _ hy)) i1
      refine ⟨ys, h', ?_, i'⟩
      rw [List.map_append, List.map_singleton] at e4
      simp only [List.map_cons, lcL, so h i, if_true, e1, e2, e3 rfl, e4]
    | false =>
      obtain ⟨ys, h', e4, i'⟩ := lcF_ex V I so L acc h1 (fun y hy => st y (List.mem_cons_of_mem _ hy)) i1
      refine ⟨ys, h', ?_, i'⟩
      simp only [List.map_cons, lcL, so h i, if_true, e1, e2, e4, Bool.false_eq_true, if_false]
/-! shapes -/
theorem kv1 {n : Int} {cs : List Nat} {h : Hv} : vIx (kv n cs) (.int 1) h = .ok (.tup (lbs cs)) h := t1 ..
theorem kv0 {n : Int} {cs : List Nat} {h : Hv} : vIx (kv n cs) (.int 0) h = .ok (.int n) h := t0 ..
theorem shape_ex {n : Nat} {cs : List Nat} {g : Hv} (hn : n = 1 ∨ n = 2) (h1 : 0 < cs.length) (h2 : cs.length ≤ 3) : ∀ (c : Nat) {k : Nat} {h : Hv}, Tp g h → c < 100 → ∃ s h', s.good n cs ∧ s.size = c ∧ Tp g h' ∧ lev D (k + c + 2) 19 [.ref 0, kv n cs, .int c] h = .ok (Sh.val s) h' := by
  intro c
  induction c using Nat.strongRecOn with
  | _ c ih =>
    intro k h tp hc
    suffices q : ∃ s h', s.good n cs ∧ s.size = c ∧ Tp g h' ∧ b__law_shape (lev D (k + c + 1)) [some (.ref 0), some (kv n cs), some (.int c), none, none] h = .rt (Sh.val s) h' by
      obtain ⟨s, h', a, b, d, e⟩ := q
      exact ⟨s, h', a, b, d, show runDef 5 (b__law_shape (lev D (k + c + 1))) [.ref 0, kv n cs, .int c] h = _ from run_rt e⟩
    unfold b__law_shape
    by_cases h0 : c = 0
    · subst h0
      refine ⟨.nil, h, trivial, rfl, tp, ?_⟩
      rw [if_t (h1 := h) (by rw [e_b, e_bin, dv rfl, Res.bind_ok, e_c, Res.bind_ok, vEq_int]; rfl), ret_eq (v := .tup []) (h1 := h) (by rw [e_tup, e_nil, Res.bind_ok, mkT_ok (by simp)]), SRes.andThen_rt]
      rfl
    obtain ⟨d, rfl⟩ : ∃ d, c = d + 1 := ⟨c - 1, by omega⟩
    have e1 : ((d + 1 : Nat) : Int) - 1 = (d : Nat) := by omega
    rw [if_f (h1 := h) (by rw [e_b, e_bin, dv rfl, Res.bind_ok, e_c, Res.bind_ok, vEq_int, resB_bl, decide_eq_false (by omega)])]
    obtain ⟨r, h1', hr, tp1, et⟩ := take_tp (k := k + (d + 1)) tp h1 (by omega)
    obtain ⟨lb, hlb⟩ : ∃ lb, cs[r]? = some lb := ⟨_, List.getElem?_eq_getElem hr⟩
    have mlb := List.mem_of_getElem? hlb
    rw [set_eq (v := .str [lb]) (h1 := h1') (by
      rw [e_bin, e_bin, dv rfl, Res.bind_ok, e_c, Res.bind_ok, kv1, Res.bind_ok, e_call, e_cons, dv rfl, Res.bind_ok, e_cons, e_len, e_bin, dv rfl, Res.bind_ok, e_c, Res.bind_ok, kv1, Res.bind_ok, vLen_tup, Res.bind_ok, e_nil, Res.bind_ok, Res.bind_ok, Res.bind_ok, List.length_map, et, Res.bind_ok]
      exact vIx_tup (nth_nat (by rw [List.getElem?_map, hlb]; rfl)))]
    rcases hn with rfl | rfl
    · obtain ⟨s, h2', sg_, ss, tp2, es⟩ := ih d (by omega) (k := k) tp1 (by omega)
      refine ⟨.one lb s, h2', ⟨rfl, mlb, sg_⟩, by simp [Sh.size, ss], tp2, ?_⟩
      rw [if_t (h1 := h1') (by rw [e_b, e_bin, e_bin, dv rfl, Res.bind_ok, e_c, Res.bind_ok, kv0, Res.bind_ok, e_c, Res.bind_ok, vEq_int]; rfl)]
      rw [ret_eq (v := .tup [.str [lb], s.val]) (h1 := h2') (by
        rw [e_tup, e_cons, dv rfl, Res.bind_ok, e_cons, e_call, e_cons, dv rfl, Res.bind_ok, e_cons, dv rfl, Res.bind_ok, e_cons, e_bin, dv rfl, Res.bind_ok, e_c, Res.bind_ok, vSub_int, e1, Res.bind_ok, e_nil, Res.bind_ok, Res.bind_ok, Res.bind_ok, Res.bind_ok,
          show k + (d + 1) + 1 = k + d + 2 by omega, es, Res.bind_ok, e_nil, Res.bind_ok, Res.bind_ok, Res.bind_ok, mkT_ok (by simp)]), SRes.andThen_rt]
      rfl
    · obtain ⟨r2, h2', hr2, tp2, et2⟩ := take_tp (k := k + (d + 1)) (m := d + 1) tp1 (by omega) (by omega)
      obtain ⟨s, h3', sg_, ss, tp3, es⟩ := ih r2 (by omega) (k := k + (d - r2)) tp2 (by omega)
      obtain ⟨s2, h4', sg2, ss2, tp4, es2⟩ := ih (d - r2) (by omega) (k := k + r2) tp3 (by omega)
      refine ⟨.two lb s s2, h4', ⟨rfl, mlb, sg_, sg2⟩, by simp [Sh.size, ss, ss2]; omega, tp4, ?_⟩
      rw [if_f (h1 := h1') (by rw [e_b, e_bin, e_bin, dv rfl, Res.bind_ok, e_c, Res.bind_ok, kv0, Res.bind_ok, e_c, Res.bind_ok, vEq_int]; rfl)]
      rw [set_eq (v := .int r2) (h1 := h2') (by rw [e_call, e_cons, dv rfl, Res.bind_ok, e_cons, dv rfl, Res.bind_ok, e_nil, Res.bind_ok, Res.bind_ok, Res.bind_ok, et2])]
      refine ret_eq ?_
      rw [e_tup, e_cons, dv rfl, Res.bind_ok, e_cons, e_call, e_cons, dv rfl, Res.bind_ok, e_cons, dv rfl, Res.bind_ok, e_cons, dv rfl, Res.bind_ok, e_nil, Res.bind_ok, Res.bind_ok, Res.bind_ok, Res.bind_ok, show k + (d + 1) + 1 = k + (d - r2) + r2 + 2 by omega, es, Res.bind_ok,
        e_cons, e_call, e_cons, dv rfl, Res.bind_ok, e_cons, dv rfl, Res.bind_ok, e_cons, e_bin, e_bin, dv rfl, Res.bind_ok, e_c, Res.bind_ok, vSub_int, e1, Res.bind_ok, dv rfl, Res.bind_ok, vSub_int, Res.bind_ok, e_nil, Res.bind_ok, Res.bind_ok, Res.bind_ok, Res.bind_ok,
        show (d : Int) - (r2 : Nat) = ((d - r2 : Nat) : Int) by omega, show k + (d - r2) + r2 + 2 = k + r2 + (d - r2) + 2 by omega, es2, Res.bind_ok, e_nil, Res.bind_ok, Res.bind_ok, Res.bind_ok, Res.bind_ok, mkT_ok (by simp)]
      rfl
end L07
set_option Elab.async false
set_option linter.all false
set_option maxRecDepth 100000
set_option maxHeartbeats 1000000
set_option autoImplicit false
namespace L07
open GH PySem
variable [TheWorld]
/-! paths -/
def pathsOf : Sh → List Int → List (List Int)
  | .nil, _ => []
  | .one _ c, p => p :: pathsOf c (p ++ [0])
  | .two _ a b, p => p :: (pathsOf a (p ++ [0]) ++ pathsOf b (p ++ [1]))
theorem paths_len : ∀ (s : Sh) (p : List Int), (pathsOf s p).length = s.size
  | .nil, _ => rfl
  | .one _ c, p => by simp [pathsOf, Sh.size, paths_len c]
  | .two _ a b, p => by simp [pathsOf, Sh.size, paths_len a, paths_len b]
theorem paths_hd (s : Sh) : pathsOf s [] = [] ∨ ∃ r, pathsOf s [] = [] :: r := by
  cases s with
  | nil => exact .inl rfl
  | one c a => exact .inr ⟨_, rfl⟩
  | two c a b => exact .inr ⟨_, rfl⟩
noncomputable abbrev lpB (G : DF) : Stm := (sSeq (sAsg (dBin vAdd (dVar 2) (dCall G (dCons (dBin vIx (dVar 0) (dBin vAdd (dVar 3) (dC (.int 1)))) (dCons (dBin vAdd (dVar 1) (dTup (dCons (dVar 3) dNil))) dNil)))) (gName 2)) sNext)
theorem lp_eq {n : Nat} {cs : List Nat} (hc : ∀ c ∈ cs, c ≤ 122) {h : Hv} : ∀ (s : Sh) {k : Nat} {p : List Int}, s.good n cs → p.length + s.size ≤ 100 → lev D (k + s.size + 1) 20 [s.val, pv p] h = .ok (.lst ((pathsOf s p).map pv)) h := by
  have node : ∀ (s : Sh) (c : Nat) (k : Nat) (p : List Int) (F : List (List (List Int))), s.good n cs → s.val = .tup (.str [c] :: s.ch.map Sh.val) → p.length ≤ 100 → s.ch.length ≤ 2 → F.length = s.ch.length → (∀ f ∈ F, f.length ≤ 100) → (∀ (i : Nat) (c : Sh), s.ch[i]? = some c → ∃ f, F[i]? = some f ∧ lev D k 20 [c.val, pv (p ++ [(i : Int)])] h = .ok (.lst (f.map pv)) h) →
      lev D (k + 1) 20 [s.val, pv p] h = .ok (.lst ((p :: F.flatten).map pv)) h := by
    intro s c k p F hg ev hp hl hF hf q
    have ov := Sh.okv hc hg
    rw [ev] at ov
    show runDef 4 (b__law_paths (lev D k)) [s.val, pv p] h = _
    rw [ev]
    refine run_rt ?_
    show b__law_paths (lev D k) [some (.tup (.str [c] :: s.ch.map Sh.val)), some (pv p), none, none] h = _
    unfold b__law_paths
    rw [if_f (h1 := h) (by
      rw [e_b, e_bin, dv rfl, Res.bind_ok, e_tup, e_nil, Res.bind_ok, mkT_ok (by simp), Res.bind_ok, eq_nilT ov]
      rfl)]
    rw [set_eq (v := .lst [pv p]) (h1 := h) (by rw [e_lst, e_cons, dv rfl, Res.bind_ok, e_nil, Res.bind_ok, Res.bind_ok, mkL_ok (by simp)])]
    show sSeq _ _ [some (.tup (.str [c] :: s.ch.map Sh.val)), some (pv p), some (.lst [pv p]), none] h = _
    rw [for_eq (it := (List.range s.ch.length).map fun j : Nat => Val.int j) (h1 := h) (by
      rw [e_rng1, e_bin, e_len, dv rfl, Res.bind_ok, vLen_tup, Res.bind_ok, e_c, Res.bind_ok, vSub_int, Res.bind_ok, List.length_cons, List.length_map, show ((s.ch.length + 1 : Nat) : Int) - 1 = (s.ch.length : Nat) by omega, rng1_eq (by omega)])]
    obtain ⟨l', h', e, x, rfl, rfl⟩ := for_ind (t := gName 3) (b := lpB (lev D k 20)) (it := (List.range s.ch.length).map fun j : Nat => Val.int j) (fun j : Nat => Val.int j) (fun pre l h' => ∃ x, l = [some (.tup (.str [c] :: s.ch.map Sh.val)), some (pv p), some (.lst ((p :: (F.take pre.length).flatten).map pv)), x] ∧ h' = h)
      (List.range s.ch.length) [] [some (.tup (.str [c] :: s.ch.map Sh.val)), some (pv p), some (.lst [pv p]), none] h ⟨_, rfl, rfl⟩ (by
        rintro pre j r l h0 e ⟨x, rfl, rfl⟩
        have e : List.range s.ch.length = pre ++ j :: r := e
        have hp2 : pre.length < s.ch.length := by
          have := congrArg List.length e
          simp at this
          omega
        have hj : j = pre.length := by
          have q1 : (List.range s.ch.length)[pre.length]? = some j := by rw [e]; simp
          rw [List.getElem?_range hp2] at q1
          exact (Option.some.inj q1).symm
        subst hj
        obtain ⟨f, hf1, ef⟩ := q pre.length _ (List.getElem?_eq_getElem hp2)
        have fl : (F.take pre.length).flatten.length ≤ 200 := by
          have q2 : ∀ G : List (List (List Int)), (∀ f ∈ G, f.length ≤ 100) → G.flatten.length ≤ 100 * G.length := by
            intro G
            induction G with
            | nil => intro _; simp
            | cons a G ih =>
              intro hG
              have := ih fun f hf => hG f (List.mem_cons_of_mem _ hf)
              have := hG a (List.mem_cons_self ..)
              rw [List.flatten_cons, List.length_append, List.length_cons]
              omega
          have := q2 (F.take pre.length) fun f hf0 => hf f (List.mem_of_mem_take hf0)
          rw [List.length_take] at this
          omega
        refine ⟨[some (.tup (.str [c] :: s.ch.map Sh.val)), some (pv p), some (.lst ((p :: (F.take pre.length).flatten).map pv)), some (.int pre.length)], _, [some (.tup (.str [c] :: s.ch.map Sh.val)), some (pv p), some (.lst ((p :: (F.take (pre.length + 1)).flatten).map pv)), some (.int pre.length)], h0, rfl, ?_, _, by rw [List.length_append]; rfl, rfl⟩
        refine set_eq ?_
        rw [e_bin, dv rfl, Res.bind_ok, e_call, e_cons, e_bin, dv rfl, Res.bind_ok, e_bin, dv rfl, Res.bind_ok, e_c, Res.bind_ok, vAdd_int, Res.bind_ok, vIx_tup (v := (s.ch[pre.length]).val) (by
          rw [show ((pre.length : Int) + 1) = ((pre.length + 1 : Nat) : Int) by omega]
          exact nth_nat (by rw [List.getElem?_cons_succ, List.getElem?_map, List.getElem?_eq_getElem hp2]; rfl)), Res.bind_ok, e_cons, e_bin, dv rfl, Res.bind_ok, e_tup, e_cons, dv rfl, Res.bind_ok, e_nil, Res.bind_ok, Res.bind_ok, mkT_ok (by simp), Res.bind_ok, pv_snoc p pre.length (by omega) h0, Res.bind_ok, e_nil, Res.bind_ok, Res.bind_ok, Res.bind_ok, ef, Res.bind_ok, add_lst (by
            have := hf f (List.mem_of_getElem? hf1)
            simp only [List.length_map, List.length_cons]
            omega), List.take_add_one, hf1]
        simp)
    rw [e, List.nil_append, List.length_range, SRes.andThen_nx, List.take_of_length_le (by omega)]
    exact ret_eq (dv rfl)
  intro s
  induction s with
  | nil =>
    intro k p _ _
    show runDef 4 (b__law_paths (lev D k)) [.tup [], pv p] h = _
    refine run_rt ?_
    show b__law_paths (lev D k) [some (.tup []), some (pv p), none, none] h = _
    unfold b__law_paths
    rw [if_t (h1 := h) (by rfl), ret_eq (v := .lst []) (h1 := h) rfl]
    rfl
  | one c a ia =>
    intro k p hg hp
    simp only [Sh.size] at hp
    have := node (.one c a) c (k + a.size + 1) p [pathsOf a (p ++ [0])] hg rfl (by omega) (by simp [Sh.ch]) rfl (by simp [paths_len]; omega) fun i c' e => by
      match i, e with
      | 0, e => cases e; exact ⟨_, rfl, ia hg.2.2 (by simp; omega)⟩
      | i + 1, e => simp [Sh.ch] at e
    rw [show p :: [pathsOf a (p ++ [0])].flatten = pathsOf (.one c a) p by simp [pathsOf]] at this
    exact this
  | two c a b ia ib =>
    intro k p hg hp
    simp only [Sh.size] at hp
    have := node (.two c a b) c (k + (a.size + b.size) + 1) p [pathsOf a (p ++ [0]), pathsOf b (p ++ [1])] hg rfl (by omega) (by simp [Sh.ch]) rfl (by simp [paths_len]; omega) fun i c' e => by
      match i, e with
      | 0, e => cases e; exact ⟨_, rfl, by rw [show k + (a.size + b.size) + 1 = (k + b.size) + a.size + 1 by omega]; exact ia hg.2.2.1 (by simp; omega)⟩
      | 1, e => cases e; exact ⟨_, rfl, by rw [show k + (a.size + b.size) + 1 = (k + a.size) + b.size + 1 by omega]; exact ib hg.2.2.2 (by simp; omega)⟩
      | i + 2, e => simp [Sh.ch] at e
    rw [show p :: [pathsOf a (p ++ [0]), pathsOf b (p ++ [1])].flatten = pathsOf (.two c a b) p by simp [pathsOf]] at this
    exact this
/-! a machine is drawn -/
def RowV (n q : Nat) (v : Val) : Prop := Row n q v
theorem row_ints {q : Nat} {ys : List Val} (hl : ys.length = q) (h : ∀ v ∈ ys, Row 0 q v) : Row 1 q (.tup ys) := ⟨ys, rfl, hl, h⟩
noncomputable abbrev tkE (G : DF) : Den := dCall G (dCons (dVar 0) (dCons (dVar 3) dNil))
theorem tk_row {k q : Nat} {g h : Hv} {a b c d e x : Option Val} {y z : Option Val} (tp : Tp g h) (hq : 0 < q) (hq2 : q ≤ 300) : ∃ ys h', dLc frozen [7] (iRange1 (dVar 3)) (gName 7) dYes (tkE (lev D (k + 1) 14)) [some (.ref 0), a, b, some (.int q), c, d, e, x, y] h = .ok (.lst ys) h' ∧ ys.length = q ∧ (∀ v ∈ ys, Row 0 q v) ∧ Tp g h' := by
  obtain ⟨ys, h', e1, e2, e3, e4⟩ := dlc_ex (vs := [7]) (di := iRange1 (dVar 3)) (t := gName 7) (e := tkE (lev D (k + 1) 14)) (l := [some (.ref 0), a, b, some (.int q), c, d, e, x, y]) (h := h) (o := none) (fun j : Nat => Val.int j) (Row 0 q) (Tp g) (List.range q)
    (by rw [e_rng1, dv rfl, Res.bind_ok, rng1_eq (by omega)]) (fun _ _ => trivial) tp (fun j _ h1 tp1 => by
      obtain ⟨r, h2, hr, tp2, et⟩ := take_tp (k := k) tp1 hq (by omega)
      exact ⟨[some (.ref 0), a, b, some (.int q), c, d, e, some (.int j), y], .int r, h2, rfl, by unfold tkE; rw [e_call, e_cons, dv rfl, Res.bind_ok, e_cons, dv rfl, Res.bind_ok, e_nil, Res.bind_ok, Res.bind_ok, Res.bind_ok, et], ⟨r, hr, rfl⟩, tp2⟩)
  exact ⟨ys, h', e1, by rw [e2, List.length_range], e3, e4⟩
end L07
set_option Elab.async false
set_option linter.all false
set_option maxRecDepth 100000
set_option maxHeartbeats 1000000
set_option autoImplicit false
namespace L07
open GH PySem
variable [TheWorld]
theorem tuple_ref {i : Nat} {L : List Val} {h : Hv} (e : h[i]? = some (.lst L)) : vTuple (.ref i) h = .ok (.tup L) h := by
  simp only [vTuple, seqOf, lstOf, e]
noncomputable abbrev rw1 (G : DF) : Den := dLc frozen [7] (iRange1 (dVar 3)) (gName 7) dYes (tkE G)
noncomputable abbrev rw2 (G : DF) : Den := dLc frozen [8] (iRange1 (dVar 3)) (gName 8) dYes (dFn vTuple (rw1 G))
noncomputable abbrev dmB (G : DF) : Stm := (sSeq (sAsg (rw1 G) (gName 6))
    (sSeq (sIf (dB (dBin vEq (dBin vIx (dVar 1) (dC (.int 0))) (dC (.int 2)))) (sSeq (sAsg (rw2 G) (gName 6))
    sNext) sNext)
    (sSeq (sExpr (dMeth1 isLst vAppend (dVar 4) (dFn vTuple (dVar 6))))
    sNext)))
theorem tk_row2 {k q : Nat} {g h : Hv} {a b c d e x : Option Val} {y : Option Val} (tp : Tp g h) (hq : 0 < q) (hq2 : q ≤ 300) : ∃ ys h', rw2 (lev D (k + 1) 14) [some (.ref 0), a, b, some (.int q), c, d, e, x, y] h = .ok (.lst ys) h' ∧ ys.length = q ∧ (∀ v ∈ ys, Row 1 q v) ∧ Tp g h' := by
  obtain ⟨ys, h', e1, e2, e3, e4⟩ := dlc_ex (vs := [8]) (di := iRange1 (dVar 3)) (t := gName 8) (e := dFn vTuple (rw1 (lev D (k + 1) 14))) (l := [some (.ref 0), a, b, some (.int q), c, d, e, x, y]) (h := h) (o := none) (fun j : Nat => Val.int j) (Row 1 q) (Tp g) (List.range q)
    (by rw [e_rng1, dv rfl, Res.bind_ok, rng1_eq (by omega)]) (fun _ _ => trivial) tp (fun j _ h1 tp1 => by
      obtain ⟨zs, h2, f1, f2, f3, f4⟩ := tk_row (k := k) (a := a) (b := b) (c := c) (d := d) (e := e) (x := x) (y := some (.int j)) (z := none) tp1 hq hq2
      exact ⟨[some (.ref 0), a, b, some (.int q), c, d, e, x, some (.int j)], .tup zs, h2, rfl, by rw [e_fn]; exact (congrArg (fun r : Res Val => r.bind vTuple) f1).trans (by rw [Res.bind_ok, vTuple_lst]), row_ints f2 f3, f4⟩)
  exact ⟨ys, h', e1, by rw [e2, List.length_range], e3, e4⟩
theorem dmB_eq {k n q : Nat} {cs : List Nat} {T : List Val} {h : Hv} {b d e x y : Option Val} (hn : n = 1 ∨ n = 2) (tp : Tp [.lst T] h) (hq : 0 < q) (hq2 : q ≤ 300) (hT : T.length ≤ 10000) :
    ∃ v x' y' e' h', Row n q v ∧ Tp [.lst (T ++ [v])] h' ∧ dmB (lev D (k + 1) 14) [some (.ref 0), some (kv n cs), b, some (.int q), some (.ref 1), d, e, x, y] h = .nx [some (.ref 0), some (kv n cs), b, some (.int q), some (.ref 1), d, e', x', y'] h' := by
  obtain ⟨ys, h1, e1, l1, r1, tp1⟩ := tk_row (k := k) (a := some (kv n cs)) (b := b) (c := some (.ref 1)) (d := d) (e := e) (x := x) (y := y) (z := none) tp hq hq2
  -- the list that is put at the end
  have fin : ∀ (zs : List Val) (h2 : Hv), Tp [.lst T] h2 → ∃ h3, Tp [.lst (T ++ [.tup zs])] h3 ∧ (sSeq (sExpr (dMeth1 isLst vAppend (dVar 4) (dFn vTuple (dVar 6)))) sNext) [some (.ref 0), some (kv n cs), b, some (.int q), some (.ref 1), d, some (.lst zs), x, y] h2 = .nx [some (.ref 0), some (kv n cs), b, some (.int q), some (.ref 1), d, some (.lst zs), x, y] h3 := by
    rintro zs h2 ⟨o, ho, rfl⟩
    refine ⟨[o, .lst (T ++ [.tup zs])], ⟨o, ho, rfl⟩, ?_⟩
    rw [expr_eq (app_at (j := 1) (L := T) (v := .tup zs) rfl rfl (by rw [e_fn, dv rfl, Res.bind_ok, vTuple_lst]) (by omega)), e_next]
    rfl
  unfold dmB
  rw [set_eq (v := .lst ys) (h1 := h1) e1]
  show ∃ v x' y' e' h', _ ∧ _ ∧ sSeq _ _ [some (.ref 0), some (kv n cs), b, some (.int q), some (.ref 1), d, some (.lst ys), x, y] h1 = _
  have en : dBin vEq (dBin vIx (dVar 1) (dC (.int 0))) (dC (.int 2)) [some (.ref 0), some (kv n cs), b, some (.int q), some (.ref 1), d, some (.lst ys), x, y] h1 = .ok (.bl (decide ((n : Int) = 2))) h1 := by
    rw [e_bin, e_bin, dv rfl, Res.bind_ok, e_c, Res.bind_ok, kv0, Res.bind_ok, e_c, Res.bind_ok, vEq_int]
  rcases hn with rfl | rfl
  · obtain ⟨h3, tp3, e3⟩ := fin ys h1 tp1
    refine ⟨.tup ys, x, y, some (.lst ys), h3, row_ints l1 r1, tp3, ?_⟩
    rw [if_f (h1 := h1) (by rw [e_b, en]; rfl)]
    exact e3
  · obtain ⟨zs, h2, e2, l2, r2, tp2⟩ := tk_row2 (k := k) (a := some (kv ((2 : Nat) : Int) cs)) (b := b) (c := some (.ref 1)) (d := d) (e := some (.lst ys)) (x := x) (y := y) tp1 hq hq2
    obtain ⟨h3, tp3, e3⟩ := fin zs h2 tp2
    refine ⟨.tup zs, x, y, some (.lst zs), h3, ⟨zs, rfl, l2, r2⟩, tp3, ?_⟩
    rw [if_t (h1 := h1) (by rw [e_b, en]; rfl), set_eq (v := .lst zs) (h1 := h2) e2]
    exact e3
theorem bls_of : ∀ {ys : List Val}, (∀ v ∈ ys, ∃ b, v = .bl b) → ∃ L : List Bool, ys = L.map .bl
  | [], _ => ⟨[], rfl⟩
  | v :: ys, h => by
    obtain ⟨b, rfl⟩ := h v (List.mem_cons_self ..)
    obtain ⟨L, rfl⟩ := bls_of fun u hu => h u (List.mem_cons_of_mem _ hu)
    exact ⟨b :: L, rfl⟩
theorem dm_ex {k n q t : Nat} {cs : List Nat} {h : Hv} (hn : n = 1 ∨ n = 2) (hcs : cs ∈ KS) (ht : t ≤ 6) (hq : 0 < q) (hq2 : q ≤ 300) (tp : Tp [] h) : ∃ (M : Mc) (h' : Hv), M.ok ∧ M.n = n ∧ M.cs = cs ∧ M.t = t ∧ M.q = q ∧ Tp [.lst M.T] h' ∧ lev D (k + 2) 26 [.ref 0, kv n cs, .int t, .int q] h = .ok M.val h' := by
  have hc10 : cs.length ≤ 10 := by have := (KS_len hcs).2.1; omega
  have sm := sg_small hc10 ht
  suffices z : ∃ (M : Mc) (h' : Hv), M.ok ∧ M.n = n ∧ M.cs = cs ∧ M.t = t ∧ M.q = q ∧ Tp [.lst M.T] h' ∧ b__law_draw_machine (lev D (k + 1)) [some (.ref 0), some (kv n cs), some (.int t), some (.int q), none, none, none, none, none] h = .rt M.val h' by
    obtain ⟨M, h', a, b, c, d, e, f, e2⟩ := z
    exact ⟨M, h', a, b, c, d, e, f, show runDef 9 (b__law_draw_machine (lev D (k + 1))) [.ref 0, kv n cs, .int t, .int q] h = _ from run_rt e2⟩
  unfold b__law_draw_machine
  obtain ⟨o, ho, rfl⟩ := tp
  rw [set_eq (v := .ref 1) (h1 := [o, .lst []]) (by rw [e_lstM, e_nil, Res.bind_ok, mkR_ok (by simp)]; rfl)]
  show ∃ (M : Mc) (h' : Hv), _ ∧ _ ∧ _ ∧ _ ∧ _ ∧ _ ∧ sSeq _ _ [some (.ref 0), some (kv n cs), some (.int t), some (.int q), some (.ref 1), none, none, none, none] [o, .lst []] = _
  rw [for_eq (it := (sg cs t).map sv) (h1 := [o, .lst []]) (by
    rw [e_iseq, e_call, e_cons, dv rfl, Res.bind_ok, e_cons, dv rfl, Res.bind_ok, e_nil, Res.bind_ok, Res.bind_ok, Res.bind_ok, lsigns_eq hc10 ht, Res.bind_ok, vIter_lst])]
  obtain ⟨l', h', e, T, d, e1, x, y, hT, hR, rfl, o', ho', rfl⟩ := for_ind (t := gName 5) (b := dmB (lev D (k + 1) 14)) (it := (sg cs t).map sv) sv (fun p l h' => ∃ (T : List Val) (d e x y : Option Val), T.length = p.length ∧ (∀ v ∈ T, Row n q v) ∧ l = [some (.ref 0), some (kv n cs), some (.int t), some (.int q), some (.ref 1), d, e, x, y] ∧ Tp [.lst T] h')
    (sg cs t) [] [some (.ref 0), some (kv n cs), some (.int t), some (.int q), some (.ref 1), none, none, none, none] [o, .lst []] ⟨[], none, none, none, none, rfl, (fun v hv => by cases hv), rfl, o, ho, rfl⟩ (by
      rintro p s r l h0 e ⟨T, d, e1, x, y, hT, hR, rfl, tp⟩
      have e : sg cs t = p ++ s :: r := e
      have hp : p.length < (sg cs t).length := by rw [e]; simp
      obtain ⟨v, x', y', e', h2, hv, tp2, e3⟩ := dmB_eq (k := k) (cs := cs) (b := some (.int t)) (d := some (sv s)) (e := e1) (x := x) (y := y) hn tp hq hq2 (by omega)
      refine ⟨_, h0, _, h2, rfl, e3, T ++ [v], some (sv s), e', x', y', by simp [hT], ?_, rfl, tp2⟩
      intro u hu
      rcases List.mem_append.mp hu with hu | hu
      · exact hR u hu
      · rw [List.mem_singleton.mp hu]; exact hv)
  rw [List.nil_append] at hT
  obtain ⟨ys, h2, f1, f2, f3, o2, ho2, rfl⟩ := dlc_ex (vs := [7]) (di := iRange1 (dVar 3)) (t := gName 7) (e := dBin vEq (dCall (lev D (k + 1) 14) (dCons (dVar 0) (dCons (dC (.int 2)) dNil))) (dC (.int 1))) (l := [some (.ref 0), some (kv n cs), some (.int t), some (.int q), some (.ref 1), d, e1, x, y]) (h := [o', .lst T]) (o := none) (fun j : Nat => Val.int j) (fun v => ∃ b, v = .bl b) (Tp [.lst T]) (List.range q)
    (by rw [e_rng1, dv rfl, Res.bind_ok, rng1_eq (by omega)]) (fun _ _ => trivial) ⟨o', ho', rfl⟩ (fun j _ h1 tp1 => by
      obtain ⟨r, h2, hr, tp2, et⟩ := take_tp (k := k) (m := 2) tp1 (by omega) (by omega)
      exact ⟨[some (.ref 0), some (kv n cs), some (.int t), some (.int q), some (.ref 1), d, e1, some (.int j), y], .bl (decide ((r : Int) = 1)), h2, rfl, by rw [e_bin, e_call, e_cons, dv rfl, Res.bind_ok, e_cons, e_c, Res.bind_ok, e_nil, Res.bind_ok, Res.bind_ok, Res.bind_ok]; exact (congrArg (fun z : Res Val => z.bind _) et).trans (by rw [Res.bind_ok, e_c, Res.bind_ok, vEq_int]), ⟨_, rfl⟩, tp2⟩)
  obtain ⟨L, rfl⟩ := bls_of f3
  rw [List.length_map, List.length_range] at f2
  refine ⟨⟨n, cs, t, q, T, L⟩, [o2, .lst T], ⟨hn, hcs, ht, hq2, ⟨hT, hR, hq⟩, f2⟩, rfl, rfl, rfl, rfl, ⟨o2, ho2, rfl⟩, ?_⟩
  rw [e, SRes.andThen_nx]
  refine ret_eq ?_
  rw [e_tup, e_cons, dv rfl, Res.bind_ok, e_cons, dv rfl, Res.bind_ok, e_cons, e_fn, dv rfl, Res.bind_ok, tuple_ref (i := 1) (L := T) rfl, Res.bind_ok, e_cons, e_fn]
  refine (congrArg (fun z : Res Val => ((((z.bind vTuple).bind fun v h1 => (dNil _ h1).bind fun vs h2 => Res.ok (v :: vs) h2).bind fun vs h2 => Res.ok (Val.tup T :: vs) h2).bind fun vs h2 => Res.ok (Val.int t :: vs) h2).bind (fun vs h2 => Res.ok (kv n cs :: vs) h2) |>.bind mkTup) f1).trans ?_
  rw [Res.bind_ok, vTuple_lst, Res.bind_ok, e_nil, Res.bind_ok, Res.bind_ok, Res.bind_ok, Res.bind_ok, Res.bind_ok, mkT_ok (by simp)]
  rfl
end L07
set_option Elab.async false
set_option linter.all false
set_option maxRecDepth 100000
set_option maxHeartbeats 1000000
set_option autoImplicit false
namespace L07
open GH PySem
variable [TheWorld]
/-! kinds that are none -/
abbrev kvt (n : Int) (ls : List Tx) : Val := .tup [.int n, .tup (ls.map .str)]
abbrev IK : Tx := [73, 110, 118, 97, 108, 105, 100, 75, 105, 110, 100]
abbrev EXK : Ex := ⟨IK, []⟩
noncomputable def kTest : DenG Bool := (dOr (dB (dBin vNotIn (dVar 1) (dTup (dCons (dC (.int 1)) (dCons (dC (.int 2)) dNil))))) (dOr (dNot (dB (dChain vLe vLe (dC (.int 1)) (dLen (dVar 2)) (dC (.int 3))))) (dB (dBin vNe (dFn vList (dVar 2)) (dFn vSortSet (dVar 2))))))
noncomputable def kTest2 : DenG Bool := (dNot (dTru (dFn vAll (dLc frozen [3] (iSeq (dVar 2)) (gName 3) dYes (dAndV (dBin vEq (dLen (dVar 3)) (dC (.int 1))) (dBin vIn (dVar 3) (dC (.str [97, 98, 99, 100, 101, 102, 103, 104, 105, 106, 107, 108, 109, 110, 111, 112, 113, 114, 115, 116, 117, 118, 119, 120, 121, 122]))))))))
theorem kind_x {n : Int} {ls : List Tx} {k : Nat} {h : Hv} (e : kTest [some (kvt n ls), some (.int n), some (.tup (ls.map .str)), none] h = .ok true h ∨ (kTest [some (kvt n ls), some (.int n), some (.tup (ls.map .str)), none] h = .ok false h ∧ kTest2 [some (kvt n ls), some (.int n), some (.tup (ls.map .str)), none] h = .ok true h)) : lev D (k + 1) 0 [kvt n ls] h = .exc EXK h := by
  show runDef 4 (b_check_kind (lev D k)) [kvt n ls] h = _
  have st : b_check_kind (lev D k) [some (kvt n ls), none, none, none] h = .exc EXK [some (kvt n ls), some (.int n), some (.tup (ls.map .str)), none] h := by
    unfold b_check_kind
    rw [asg_eq (v := kvt n ls) (h1 := h) (by simp [dVar]) (l1 := [some (kvt n ls), some (.int n), some (.tup (ls.map .str)), none]) rfl]
    show (sSeq (sIf kTest (sSeq (sRaise IK) sNext) sNext) (sSeq (sIf kTest2 (sSeq (sRaise IK) sNext) sNext) sNext)) [some (kvt n ls), some (.int n), some (.tup (ls.map .str)), none] h = _
    rcases e with e | ⟨e, e2⟩
    · rw [raise_if e]
      rfl
    · rw [raise_if e, if_neg (by simp), raise_if e2]
      rfl
  exact run_exc st
theorem kind_k {n : Int} {ls : List Tx} {k : Nat} {h : Hv} (e : kTest [some (kvt n ls), some (.int n), some (.tup (ls.map .str)), none] h = .ok false h ∧ kTest2 [some (kvt n ls), some (.int n), some (.tup (ls.map .str)), none] h = .ok false h) : lev D (k + 1) 0 [kvt n ls] h = .ok .non h := by
  show runDef 4 (b_check_kind (lev D k)) [kvt n ls] h = _
  have st : b_check_kind (lev D k) [some (kvt n ls), none, none, none] h = .nx [some (kvt n ls), some (.int n), some (.tup (ls.map .str)), none] h := by
    unfold b_check_kind
    rw [asg_eq (v := kvt n ls) (h1 := h) (by simp [dVar]) (l1 := [some (kvt n ls), some (.int n), some (.tup (ls.map .str)), none]) rfl]
    show (sSeq (sIf kTest (sSeq (sRaise IK) sNext) sNext) (sSeq (sIf kTest2 (sSeq (sRaise IK) sNext) sNext) sNext)) [some (kvt n ls), some (.int n), some (.tup (ls.map .str)), none] h = _
    rw [raise_if e.1, if_neg (by simp), raise_if e.2]
    rfl
  exact run_nx st
section
variable {h : Hv}
theorem ni {n : Int} (hn : n = 1 ∨ n = 2) : vNotIn (.int n) (.tup [.int 1, .int 2]) h = .ok (.bl false) h := by rcases hn with rfl | rfl <;> rfl
theorem ss (L M : List Tx) (a : L.length < 4000) (b : M.Nodup) (c : ∀ x, x ∈ M ↔ x ∈ L) (s : srt M = M) : vSortSet (.tup (L.map .str)) h = .ok (.lst (M.map .str)) h := by
  have := vSortSet_txt (v := .tup (L.map .str)) (h := h) rfl a b c
  rwa [s] at this
theorem kt1 {n : Int} (hn : n = 1 ∨ n = 2) {ls : List Tx} {v : Val} (hl : 1 ≤ ls.length ∧ ls.length ≤ 3) (M : List Tx) (a : M.Nodup) (b : ∀ x, x ∈ M ↔ x ∈ ls) (s : srt M = M) {c : Bool} (e : vNe (.lst (ls.map .str)) (.lst (M.map .str)) h = .ok (.bl c) h) : kTest [some v, some (.int n), some (.tup (ls.map .str)), none] h = .ok c h := by
  have e1 := ss (h := h) ls M (by omega) a b s
  have h1 : ((ls.length : Nat) : Int) ≤ 3 := by omega
  have h2 : (1 : Int) ≤ ((ls.length : Nat) : Int) := by omega
  simp [kTest, dVar, mkT_ok, ni hn, vList, seqOf, e1, e, h1, h2]
theorem kt2 {v w : Val} {ls : List Tx} (bb : Tx → Bool) (hb : ∀ x ∈ ls, x.length ≤ 1000 ∧ ((x.length = 1 ∧ vIn (.str x) (.str [97, 98, 99, 100, 101, 102, 103, 104, 105, 106, 107, 108, 109, 110, 111, 112, 113, 114, 115, 116, 117, 118, 119, 120, 121, 122]) h = .ok (.bl (bb x)) h) ∨ (x.length ≠ 1 ∧ bb x = false))) :
    kTest2 [some v, some w, some (.tup (ls.map .str)), none] h = .ok (!(ls.all bb)) h := by
  simp only [kTest2, e_not, e_tru, e_fn, dLc, e_iseq, dVar, List.getElem?_cons_succ, List.getElem?_cons_zero, Res.bind_ok, vIter_tup]
  rw [lcL_mapL Val.str (fun x => .bl (bb x)) (srcOk_none _ _) ls [] fun x hx => ⟨_, rfl, by
    obtain ⟨hl, hx⟩ := hb x hx
    have hlen : vLen (.str x) h = .ok (.int x.length) h := by
      simp only [vLen]
      rw [if_pos (show x.length ≤ lineN by unfold lineN; omega)]
    rcases hx with ⟨h1, h2⟩ | ⟨h1, h2⟩
    · simp [wipeL, dVar, hlen, h1, h2]
    · have : ((x.length : Nat) : Int) ≠ 1 := by omega
      simp [wipeL, dVar, hlen, h2, this]⟩]
  simp only [List.nil_append, frozen, Res.bind_ok]
  rw [show ls.map (fun x => Val.bl (bb x)) = (ls.map bb).map Val.bl by simp, vAll_bls]
  simp [List.all_map]
theorem kind_g {n : Int} (hn : n = 1 ∨ n = 2) {ls : List Tx} (hl : 1 ≤ ls.length ∧ ls.length ≤ 3) (M : List Tx) (a : M.Nodup) (b : ∀ x, x ∈ M ↔ x ∈ ls) (s : srt M = M) (e : ∀ h, vNe (.lst (ls.map .str)) (.lst (M.map .str)) h = .ok (.bl true) h) {k : Nat} : lev D (k + 1) 0 [kvt n ls] h = .exc EXK h :=
  kind_x (.inl (kt1 hn (v := kvt n ls) hl M a b s (e h)))
theorem kind_l {n : Int} (hn : n = 1 ∨ n = 2) {ls : List Tx} (hl : 1 ≤ ls.length ∧ ls.length ≤ 3) (a : ls.Nodup) (s : srt ls = ls) (e : vNe (.lst (ls.map .str)) (.lst (ls.map .str)) h = .ok (.bl false) h)
    (bb : Tx → Bool) (hb : ∀ x ∈ ls, x.length ≤ 1000 ∧ ((x.length = 1 ∧ vIn (.str x) (.str [97, 98, 99, 100, 101, 102, 103, 104, 105, 106, 107, 108, 109, 110, 111, 112, 113, 114, 115, 116, 117, 118, 119, 120, 121, 122]) h = .ok (.bl (bb x)) h) ∨ (x.length ≠ 1 ∧ bb x = false))) {k : Nat} :
    lev D (k + 1) 0 [kvt n ls] h = if ls.all bb then .ok .non h else .exc EXK h := by
  have e1 := kt1 hn (v := kvt n ls) hl ls a (fun x => Iff.rfl) s e
  have e2 := kt2 (h := h) (v := kvt n ls) (w := .int n) bb hb
  cases hx : ls.all bb with
  | true => rw [hx] at e2; exact kind_k ⟨e1, e2⟩
  | false => rw [hx] at e2; exact kind_x (.inr ⟨e1, e2⟩)
theorem kind_n {n : Int} (hn : vNotIn (.int n) (.tup [.int 1, .int 2]) h = .ok (.bl true) h) {ls : List Tx} {k : Nat} : lev D (k + 1) 0 [kvt n ls] h = .exc EXK h := by
  refine kind_x (.inl ?_)
  simp [kTest, dVar, mkT_ok, hn]
theorem kind_len {n : Int} (hn : n = 1 ∨ n = 2) {ls : List Tx} (hl : ls.length = 0 ∨ 3 < ls.length) {k : Nat} : lev D (k + 1) 0 [kvt n ls] h = .exc EXK h := by
  refine kind_x (.inl ?_)
  rcases hl with h0 | h0
  · have : ls = [] := List.eq_nil_of_length_eq_zero h0
    subst this
    simp [kTest, dVar, mkT_ok, ni hn]
  · have h1 : ¬ ((ls.length : Nat) : Int) ≤ 3 := by omega
    have h2 : (1 : Int) ≤ ((ls.length : Nat) : Int) := by omega
    simp [kTest, dVar, mkT_ok, ni hn, h1, h2]
end
/-! numbers, kinds -/
def numB (q : Nat) (v : Val) : Bool := match v with
  | .int i => decide (0 ≤ i) && decide (i < q)
  | _ => false
/-- a number, a truth or a tuple -/
def Nb (v : Val) : Prop := match v with
  | .int _ => True
  | .bl _ => True
  | .tup _ => True
  | _ => False
theorem num_eq {k q : Nat} {v : Val} {h : Hv} (hv : Nb v) : lev D (k + 1) 3 [v, .int q] h = .ok (.bl (numB q v)) h := by
  refine eq_of ?_
  show ok (runDef 2 (b_is_number (lev D k)) [v, .int q] h) _
  rw [ok_run]
  cases v with
  | int i =>
    refine ret_ ?_
    simp [dVar, tyOf, isiB, numB]
    by_cases c : 0 ≤ i <;> by_cases c2 : i < q <;> simp [c, c2]
  | bl b =>
    refine ret_ ?_
    simp [dVar, tyOf, isiB, numB]
  | tup l =>
    refine ret_ ?_
    simp [dVar, tyOf, isiB, numB]
  | _ => exact hv.elim
theorem ik_eq {k n : Nat} {ls : List Tx} {b : Bool} {h : Hv} (hn : n = 1 ∨ n = 2) (hl : ls.length ≤ 100) (e : lev D (k + 1) 0 [kvt n ls] h = if b then .ok .non h else .exc EXK h) : lev D (k + 2) 5 [kvt n ls] h = .ok (.bl b) h := by
  show runDef 2 (b_is_kind (lev D (k + 1))) [kvt n ls] h = _
  refine run_rt ?_
  show b_is_kind (lev D (k + 1)) [some (kvt n ls), none] h = _
  unfold b_is_kind
  have e3 : lev D (k + 1) 3 [.int n, .int 3] h = .ok (.bl true) h := by
    have := num_eq (k := k) (q := 3) (v := .int n) (h := h) trivial
    refine this.trans ?_
    rcases hn with rfl | rfl <;> rfl
  have i0 : vIx (kvt n ls) (.int 0) h = .ok (.int n) h := t0 ..
  have i1 : vIx (kvt n ls) (.int 1) h = .ok (.tup (ls.map .str)) h := t1 ..
  have isT : ∀ (L : List Val) (d : Den) (l : GH.Loc), d l h = .ok (.tup L) h → dTru (dIsi .tuple d) l h = .ok true h := fun L d l ed => by
    rw [e_tru, e_isi, ed, Res.bind_ok]
    rfl
  have or_ff : ∀ {a c : DenG Bool} {l : GH.Loc}, a l h = .ok false h → c l h = .ok false h → dOr a c l h = .ok false h := fun e1 e2 => by
    rw [e_or, e1, Res.bind_ok, if_neg Bool.false_ne_true, e2]
  have not_t : ∀ {a : DenG Bool} {l : GH.Loc}, a l h = .ok true h → dNot a l h = .ok false h := fun e1 => by
    rw [e_not, e1]; rfl
  rw [if_f (h1 := h) (or_ff (not_t (isT _ _ _ (dv rfl))) (or_ff (by
    rw [e_b, e_bin, e_len, dv rfl, Res.bind_ok, vLen_tup, Res.bind_ok, e_c, Res.bind_ok, vNe_int]; rfl) (not_t (by
    rw [e_tru, e_call, e_cons, e_bin, dv rfl, Res.bind_ok, e_c, Res.bind_ok, i0, Res.bind_ok, e_cons, e_c, Res.bind_ok, e_nil, Res.bind_ok, Res.bind_ok, Res.bind_ok, e3]; rfl))))]
  rw [if_f (h1 := h) (or_ff (not_t (isT (ls.map .str) _ _ (by rw [e_bin, dv rfl, Res.bind_ok, e_c, Res.bind_ok, i1]))) (not_t (by
    rw [e_tru, e_fn]
    have q : dLc frozen [1] (iSeq (dBin vIx (dVar 0) (dC (.int 1)))) (gName 1) dYes (dIsi .str (dVar 1)) [some (kvt n ls), none] h = .ok (.lst (ls.map fun _ => .bl true)) h := dlc_eq Val.str (fun _ => .bl true) ls (by rw [e_iseq, e_bin, dv rfl, Res.bind_ok, e_c, Res.bind_ok, i1, Res.bind_ok, vIter_tup]) fun x hx => ⟨[some (kvt n ls), some (.str x)], rfl, rfl⟩
    refine (congrArg (fun r : Res Val => (r.bind vAll).bind vTru) q).trans ?_
    rw [Res.bind_ok, vAll_map (fun _ : Tx => true) ls, Res.bind_ok]
    simp)))]
  have e1 : dCall (lev D (k + 1) 0) (dCons (dVar 0) dNil) [some (kvt n ls), none] h = lev D (k + 1) 0 [kvt n ls] h := by rw [e_call, e_cons, dv rfl, Res.bind_ok, e_nil, Res.bind_ok, Res.bind_ok]
  rw [e] at e1
  rw [e_seq]
  cases b with
  | true =>
    rw [if_pos rfl] at e1
    simp only [sTry, e_seq, e_expr, e1]
    rfl
  | false =>
    rw [if_neg (by simp)] at e1
    simp only [sTry, expr_ex e1]
    rfl
/-- the labels that are drawn, and those that are spoilt -/
def kdB (cs : List Nat) : Bool := decide (cs ∈ [97, 99] :: KS)
def KX : List (List Nat) := [[97, 99], [98, 97, 99], [122, 100, 98, 99]]
theorem tx1 (cs : List Nat) : lbs cs = (cs.map fun c => [c]).map Val.str := by rw [List.map_map]; rfl
theorem ck_eq {k n : Nat} {cs : List Nat} {h : Hv} (hn : n = 1 ∨ n = 2) (hc : cs ∈ KS ∨ cs ∈ KX) : lev D (k + 1) 0 [kv n cs] h = if kdB cs then .ok .non h else .exc EXK h := by
  have hn' : (n : Int) = 1 ∨ (n : Int) = 2 := by omega
  have good : ∀ ls : List Tx, 1 ≤ ls.length ∧ ls.length ≤ 3 → ls.Nodup → srt ls = ls → vNe (.lst (ls.map .str)) (.lst (ls.map .str)) h = .ok (.bl false) h → (∀ x ∈ ls, ∃ c, x = [c] ∧ vIn (.str [c]) (.str [97, 98, 99, 100, 101, 102, 103, 104, 105, 106, 107, 108, 109, 110, 111, 112, 113, 114, 115, 116, 117, 118, 119, 120, 121, 122]) h = .ok (.bl true) h) → lev D (k + 1) 0 [kvt n ls] h = .ok .non h := by
    intro ls a b c d e
    have := kind_l (k := k) hn' a b c d (fun _ => true) fun x hx => by
      obtain ⟨c, rfl, e⟩ := e x hx
      exact ⟨by simp, .inl ⟨rfl, e⟩⟩
    rw [this, if_pos (by simp)]
  have si : ∀ ls : List Tx, ((ls.map sOf).Pairwise fun a b => leS a b = true) → srt ls = ls := fun ls => srt_id
  rcases hc with hc | hc
  · simp only [KS, List.mem_cons, List.not_mem_nil, or_false] at hc
    rcases hc with rfl | rfl | rfl
    · exact good [[97]] (by decide) (by decide) (si _ (by decide +kernel)) rfl (by simp; rfl)
    · exact good [[97], [98]] (by decide) (by decide) (si _ (by decide +kernel)) rfl (by simp; exact ⟨rfl, rfl⟩)
    · exact good [[98], [100], [122]] (by decide) (by decide) (si _ (by decide +kernel)) rfl (by simp; exact ⟨rfl, rfl, rfl⟩)
  · simp only [KX, List.mem_cons, List.not_mem_nil, or_false] at hc
    rcases hc with rfl | rfl | rfl
    · exact good [[97], [99]] (by decide) (by decide) (si _ (by decide +kernel)) rfl (by simp; exact ⟨rfl, rfl⟩)
    · exact kind_g (ls := [[98], [97], [99]]) hn' (by decide) [[97], [98], [99]] (by decide) (by intro x; simp; constructor <;> (rintro (rfl | rfl | rfl) <;> simp)) (si _ (by decide +kernel)) (fun _ => rfl)
    · exact kind_len (ls := [[122], [100], [98], [99]]) hn' (by decide)
theorem isk_eq {k n : Nat} {cs : List Nat} {h : Hv} (hn : n = 1 ∨ n = 2) (hc : cs ∈ KS ∨ cs ∈ KX) : lev D (k + 2) 5 [kv n cs] h = .ok (.bl (kdB cs)) h := by
  have e := ck_eq (k := k) (h := h) hn hc
  have hl : cs.length ≤ 100 := by
    rcases hc with hc | hc
    · have := (KS_len hc).2.1; omega
    · simp only [KX, List.mem_cons, List.not_mem_nil, or_false] at hc
      rcases hc with rfl | rfl | rfl <;> decide
  have q : kv n cs = kvt n (cs.map fun c => [c]) := by
    show Val.tup [_, .tup (lbs cs)] = _
    rw [tx1]
  rw [q] at e ⊢
  exact ik_eq hn (by simpa using hl) e
end L07
set_option Elab.async false
set_option linter.all false
set_option maxRecDepth 100000
set_option maxHeartbeats 1000000
set_option autoImplicit false
namespace L07
open GH PySem
variable [TheWorld]
/-! rows, machines, by both judges -/
theorem no_if {t : DenG Bool} {rest : Stm} {l : GH.Loc} {h : Hv} {c : Bool} (e : t l h = .ok c h) : sSeq (sIf t (sSeq (sRet (dC (.bl false))) sNext) sNext) rest l h = if c = true then .rt (.bl false) h else rest l h := by
  rw [e_seq, e_if, e]
  cases c <;> rfl
theorem or_eq {a c : DenG Bool} {l : GH.Loc} {h : Hv} {x y : Bool} (e1 : a l h = .ok x h) (e2 : x = false → c l h = .ok y h) : dOr a c l h = .ok (x || y) h := by
  rw [e_or, e1, Res.bind_ok]
  cases x with
  | true => rfl
  | false => rw [if_neg Bool.false_ne_true, e2 rfl]; rfl
theorem not_eq {a : DenG Bool} {l : GH.Loc} {h : Hv} {x : Bool} (e1 : a l h = .ok x h) : dNot a l h = .ok (!x) h := by
  rw [e_not, e1, Res.bind_ok]
theorem tru_eq {d : Den} {l : GH.Loc} {h : Hv} {x : Bool} (e1 : d l h = .ok (.bl x) h) : dTru d l h = .ok x h := by
  rw [e_tru, e1, Res.bind_ok, vTru_bl]
def isT (v : Val) : Bool := match v with
  | .tup _ => true
  | _ => false
theorem isT_eq {d : Den} {l : GH.Loc} {h : Hv} {v : Val} (hv : Nb v) (e : d l h = .ok v h) : dIsi .tuple d l h = .ok (.bl (isT v)) h := by
  rw [e_isi, e, Res.bind_ok]
  cases v with
  | int i => rfl
  | bl b => rfl
  | tup l => rfl
  | _ => exact hv.elim
def rowB : Nat → Nat → Val → Bool
  | 0, q, v => numB q v
  | n + 1, q, v => match v with
    | .tup L => decide (L.length = q) && L.all (rowB n q)
    | _ => false
def RV : Nat → Val → Prop
  | 0, v => Nb v
  | n + 1, v => Nb v ∧ ∀ L, v = .tup L → L.length ≤ 10000 ∧ ∀ x ∈ L, RV n x
theorem RV.nb {n : Nat} {v : Val} (h : RV n v) : Nb v := by
  cases n with
  | zero => exact h
  | succ n => exact h.1
theorem row_eq : ∀ (n : Nat) {k q : Nat} {v : Val} {h : Hv}, RV n v → lev D (k + n + 2) 4 [v, .int q, .int n] h = .ok (.bl (rowB n q v)) h
  | 0, k, q, v, h, hv => by
    show runDef 4 (b_is_row (lev D (k + 1))) [v, .int q, .int 0] h = _
    refine run_rt ?_
    show b_is_row (lev D (k + 1)) [some v, some (.int q), some (.int 0), none] h = _
    unfold b_is_row
    rw [if_t (h1 := h) (by rw [e_b, e_bin, dv rfl, Res.bind_ok, e_c, Res.bind_ok, vEq_int]; rfl), ret_eq (v := .bl (numB q v)) (h1 := h) (by
      rw [e_call, e_cons, dv rfl, Res.bind_ok, e_cons, dv rfl, Res.bind_ok, e_nil, Res.bind_ok, Res.bind_ok, Res.bind_ok, num_eq hv])]
    rfl
  | n + 1, k, q, v, h, hv => by
    show runDef 4 (b_is_row (lev D (k + n + 2))) [v, .int q, .int (n + 1 : Nat)] h = _
    refine run_rt ?_
    show b_is_row (lev D (k + n + 2)) [some v, some (.int q), some (.int (n + 1 : Nat)), none] h = _
    unfold b_is_row
    rw [if_f (h1 := h) (by rw [e_b, e_bin, dv rfl, Res.bind_ok, e_c, Res.bind_ok, vEq_int, resB_bl, decide_eq_false (by omega)])]
    have nt : ∀ (hi : isT v = false) (c : DenG Bool), dOr (dNot (dTru (dIsi .tuple (dVar 0)))) c [some v, some (.int q), some (.int (n + 1 : Nat)), none] h = .ok true h := fun hi c => by
      have := or_eq (h := h) (c := c) (y := true) (not_eq (tru_eq (isT_eq hv.1 (dv (l := [some v, some (.int q), some (.int (n + 1 : Nat)), none]) (i := 0) rfl)))) (fun z => by rw [hi] at z; cases z)
      rw [hi] at this
      exact this
    cases v with
    | tup L =>
      obtain ⟨hl, hx⟩ := hv.2 L rfl
      rw [no_if (c := !decide (L.length = q)) (by
        have := or_eq (c := dB (dBin vNe (dLen (dVar 0)) (dVar 1))) (y := !decide (L.length = q)) (not_eq (tru_eq (isT_eq hv.1 (dv (l := [some (.tup L), some (.int q), some (.int (n + 1 : Nat)), none]) (h := h) (i := 0) rfl)))) (fun z => by
          rw [e_b, e_bin, e_len, dv rfl, Res.bind_ok, vLen_tup, Res.bind_ok, dv rfl, Res.bind_ok, vNe_int, resB_bl]
          congr 2
          exact decide_eq_decide.mpr (by omega))
        exact this)]
      have e2 : dLc frozen [3] (iSeq (dVar 0)) (gName 3) dYes (dCall (lev D (k + n + 2) 4) (dCons (dVar 3) (dCons (dVar 1) (dCons (dBin vSub (dVar 2) (dC (.int 1))) dNil)))) [some (.tup L), some (.int q), some (.int (n + 1 : Nat)), none] h = .ok (.lst (L.map fun x => .bl (rowB n q x))) h := by
        have := dlc_eq (vs := [3]) (di := iSeq (dVar 0)) (t := gName 3) (e := dCall (lev D (k + n + 2) 4) (dCons (dVar 3) (dCons (dVar 1) (dCons (dBin vSub (dVar 2) (dC (.int 1))) dNil)))) (l := [some (.tup L), some (.int q), some (.int (n + 1 : Nat)), none]) (h := h) (fun x : Val => x) (fun x => .bl (rowB n q x)) L (by rw [e_iseq, dv rfl, Res.bind_ok, vIter_tup, List.map_id']) fun x hx0 => ⟨[some (.tup L), some (.int q), some (.int (n + 1 : Nat)), some x], rfl, by
          rw [e_call, e_cons, dv rfl, Res.bind_ok, e_cons, dv rfl, Res.bind_ok, e_cons, e_bin, dv rfl, Res.bind_ok, e_c, Res.bind_ok, vSub_int, Res.bind_ok, e_nil, Res.bind_ok, Res.bind_ok, Res.bind_ok, Res.bind_ok, show ((n + 1 : Nat) : Int) - 1 = (n : Nat) by omega]
          exact row_eq n (hx x hx0)⟩
        exact this
      cases c : decide (L.length = q) with
      | false => simp [rowB, of_decide_eq_false c]
      | true =>
        rw [if_neg (by simp)]
        refine ret_eq ?_
        rw [e_fn]
        refine (congrArg (fun r : Res Val => r.bind vAll) e2).trans ?_
        rw [Res.bind_ok, vAll_map]
        simp [rowB, of_decide_eq_true c]
    | int i => rw [no_if (c := true) (nt rfl _)]; rfl
    | bl b => rw [no_if (c := true) (nt rfl _)]; rfl
    | _ => exact hv.1.elim
theorem okVs_mem {v : Val} : ∀ {L : List Val}, okVs L = true → v ∈ L → okV v = true
  | u :: L, o, h => by
    simp only [okVs, Bool.and_eq_true] at o
    rcases List.mem_cons.mp h with rfl | h
    · exact o.1
    · exact okVs_mem o.2 h
theorem okVs_all : ∀ {L : List Val}, (∀ v ∈ L, okV v = true) → okVs L = true
  | [], _ => rfl
  | v :: L, h => by simp only [okVs, h v (List.mem_cons_self ..), okVs_all fun u hu => h u (List.mem_cons_of_mem _ hu), Bool.and_self]
theorem okVs_fil {L : List Val} {F : Val → Bool} (o : okVs L = true) : okVs (L.filter F) = true := okVs_all fun v hv => okVs_mem o (List.mem_filter.mp hv).1
theorem fil_nil {L : List Val} {F : Val → Bool} : (L.filter fun x => !F x).isEmpty = L.all F := by
  induction L with
  | nil => rfl
  | cons v L ih =>
    rw [List.filter_cons, List.all_cons, ← ih]
    cases F v <;> simp
theorem lrow_eq : ∀ (n : Nat) {k q : Nat} {v : Val} {h : Hv}, RV n v → okV v = true → lev D (k + n + 1) 27 [v, .int q, .int n] h = .ok (.bl (rowB n q v)) h
  | 0, k, q, v, h, hv, ov => by
    refine eq_of ?_
    show ok (runDef 4 (b__law_is_row (lev D k)) [v, .int q, .int 0] h) _
    rw [ok_run]
    refine if_ (c := true) (h := h) (by simp [dVar]) (fun _ => ret_ ?_) (fun z => by cases z)
    cases v with
    | int i =>
      simp [dVar, tyOf, isiB, rowB, numB]
      by_cases c : 0 ≤ i <;> by_cases c2 : i < q <;> simp [c, c2]
    | bl b => simp [dVar, tyOf, isiB, rowB, numB]
    | tup l => simp [dVar, tyOf, isiB, rowB, numB]
    | _ => exact hv.elim
  | n + 1, k, q, v, h, hv, ov => by
    show runDef 4 (b__law_is_row (lev D (k + n + 1))) [v, .int q, .int (n + 1 : Nat)] h = _
    refine run_rt ?_
    show b__law_is_row (lev D (k + n + 1)) [some v, some (.int q), some (.int (n + 1 : Nat)), none] h = _
    unfold b__law_is_row
    rw [if_f (h1 := h) (by rw [e_b, e_bin, dv rfl, Res.bind_ok, e_c, Res.bind_ok, vEq_int, resB_bl, decide_eq_false (by omega)])]
    have nt : ∀ (hi : isT v = false) (c : DenG Bool), dOr (dNot (dTru (dIsi .tuple (dVar 0)))) c [some v, some (.int q), some (.int (n + 1 : Nat)), none] h = .ok true h := fun hi c => by
      have := or_eq (h := h) (c := c) (y := true) (not_eq (tru_eq (isT_eq hv.1 (dv (l := [some v, some (.int q), some (.int (n + 1 : Nat)), none]) (i := 0) rfl)))) (fun z => by rw [hi] at z; cases z)
      rw [hi] at this
      exact this
    cases v with
    | tup L =>
      obtain ⟨hl, hx⟩ := hv.2 L rfl
      have oL : okVs L = true := ov
      rw [no_if (c := !decide (L.length = q)) (by
        have := or_eq (c := dB (dBin vNe (dLen (dVar 0)) (dVar 1))) (y := !decide (L.length = q)) (not_eq (tru_eq (isT_eq hv.1 (dv (l := [some (.tup L), some (.int q), some (.int (n + 1 : Nat)), none]) (h := h) (i := 0) rfl)))) (fun z => by
          rw [e_b, e_bin, e_len, dv rfl, Res.bind_ok, vLen_tup, Res.bind_ok, dv rfl, Res.bind_ok, vNe_int, resB_bl]
          congr 2
          exact decide_eq_decide.mpr (by omega))
        exact this)]
      have e2 : dLc frozen [3] (iSeq (dVar 0)) (gName 3) (dNot (dTru (dCall (lev D (k + n + 1) 27) (dCons (dVar 3) (dCons (dVar 1) (dCons (dBin vSub (dVar 2) (dC (.int 1))) dNil)))))) (dVar 3) [some (.tup L), some (.int q), some (.int (n + 1 : Nat)), none] h = .ok (.lst (L.filter fun x => !rowB n q x)) h := by
        have := dlcF_eq (vs := [3]) (di := iSeq (dVar 0)) (t := gName 3) (c := dNot (dTru (dCall (lev D (k + n + 1) 27) (dCons (dVar 3) (dCons (dVar 1) (dCons (dBin vSub (dVar 2) (dC (.int 1))) dNil)))))) (e := dVar 3) (l := [some (.tup L), some (.int q), some (.int (n + 1 : Nat)), none]) (h := h) (fun x : Val => x) (fun x => x) (fun x => !rowB n q x) L (by rw [e_iseq, dv rfl, Res.bind_ok, vIter_tup, List.map_id']) fun x hx0 => ⟨[some (.tup L), some (.int q), some (.int (n + 1 : Nat)), some x], rfl, not_eq (tru_eq (by
          rw [e_call, e_cons, dv rfl, Res.bind_ok, e_cons, dv rfl, Res.bind_ok, e_cons, e_bin, dv rfl, Res.bind_ok, e_c, Res.bind_ok, vSub_int, Res.bind_ok, e_nil, Res.bind_ok, Res.bind_ok, Res.bind_ok, Res.bind_ok, show ((n + 1 : Nat) : Int) - 1 = (n : Nat) by omega]
          exact lrow_eq n (hx x hx0) (okVs_mem oL hx0))), fun _ => dv rfl⟩
        rw [List.map_id'] at this
        exact this
      cases c : decide (L.length = q) with
      | false => simp [rowB, of_decide_eq_false c]
      | true =>
        rw [if_neg (by simp)]
        refine ret_eq ?_
        rw [e_bin]
        refine (congrArg (fun r : Res Val => r.bind _) e2).trans ?_
        rw [Res.bind_ok, e_lst, e_nil, Res.bind_ok, mkL_ok (by simp), Res.bind_ok, (vEq_lnil _ (okVs_fil oL) h).1, fil_nil]
        simp [rowB, of_decide_eq_true c]
    | int i => rw [no_if (c := true) (nt rfl _)]; rfl
    | bl b => rw [no_if (c := true) (nt rfl _)]; rfl
    | _ => exact hv.1.elim
end L07
set_option Elab.async false
set_option linter.all false
set_option maxRecDepth 100000
set_option maxHeartbeats 1000000
set_option autoImplicit false
namespace L07
open GH PySem
variable [TheWorld]
def isB (v : Val) : Bool := match v with
  | .bl _ => true
  | _ => false
theorem isB_eq {d : Den} {l : GH.Loc} {h : Hv} {v : Val} (hv : Nb v) (e : d l h = .ok v h) : dIsi .bool d l h = .ok (.bl (isB v)) h := by
  rw [e_isi, e, Res.bind_ok]
  cases v with
  | int i => rfl
  | bl b => rfl
  | tup l => rfl
  | _ => exact hv.elim
theorem chain_eq {da dd dc : Den} {l : GH.Loc} {h : Hv} {a b c : Int} (ea : da l h = .ok (.int a) h) (eb : dd l h = .ok (.int b) h) (ec : dc l h = .ok (.int c) h) : dB (dChain vLe vLe da dd dc) l h = .ok (decide (a ≤ b) && decide (b ≤ c)) h := by
  rw [e_b, e_chain, ea, Res.bind_ok, eb, Res.bind_ok, vLe_int, Res.bind_ok]
  by_cases q : a ≤ b
  · simp [q, ec]
  · simp [q]
abbrev Qv (n : Nat) (cs : List Nat) (tr : Nat) (T G : List Val) : Val := .tup [kv n cs, .int tr, .tup T, .tup G]
structure QOk (n : Nat) (cs : List Nat) (tr : Nat) (T G : List Val) : Prop where
  n12 : n = 1 ∨ n = 2
  cs : cs ∈ KS ∨ cs ∈ KX
  tr : tr ≤ 6
  tT : ∀ v ∈ T, RV n v
  tG : ∀ v ∈ G, Nb v
  Tl : T.length ≤ 10000
  Gl : G.length ≤ 10000
theorem QOk.cl {n : Nat} {cs : List Nat} {tr : Nat} {T G : List Val} (q : QOk n cs tr T G) : 1 ≤ cs.length ∧ cs.length ≤ 4 := by
  rcases q.cs with hc | hc
  · have := KS_len hc; omega
  · simp only [KX, List.mem_cons, List.not_mem_nil, or_false] at hc
    rcases hc with rfl | rfl | rfl <;> decide
def imB (n : Nat) (cs : List Nat) (tr : Nat) (T G : List Val) : Bool := kdB cs && ((decide (1 ≤ G.length) && decide (G.length ≤ 300)) && (G.all isB && (decide (T.length = cs.length * 2 ^ tr) && T.all (rowB n G.length))))
theorem im_eq {k n tr : Nat} {cs : List Nat} {T G : List Val} {h : Hv} (q : QOk n cs tr T G) : lev D (k + n + 4) 6 [Qv n cs tr T G] h = .ok (.bl (imB n cs tr T G)) h := by
  show runDef 7 (b_is_machine (lev D (k + n + 3))) [Qv n cs tr T G] h = _
  refine run_rt ?_
  show b_is_machine (lev D (k + n + 3)) [some (Qv n cs tr T G), none, none, none, none, none, none] h = _
  unfold b_is_machine
  rw [asg2_eq (v := Qv n cs tr T G) (h1 := h) (dv rfl) (show gTup 4 _ (Qv n cs tr T G) _ h = .ok [some (Qv n cs tr T G), some (kv n cs), some (.int tr), some (.tup T), some (.tup G), none, none] h from rfl)]
  have two : 2 ^ tr ≤ 64 := pow_le q.tr
  have cl := q.cl
  rw [no_if (c := !kdB cs) (by
    have := or_eq (h := h) (l := [some (Qv n cs tr T G), some (kv n cs), some (.int tr), some (.tup T), some (.tup G), none, none]) (not_eq (tru_eq (d := dCall (lev D (k + n + 3) 5) (dCons (dVar 1) dNil)) (x := kdB cs) (by rw [e_call, e_cons, dv rfl, Res.bind_ok, e_nil, Res.bind_ok, Res.bind_ok]; exact isk_eq q.n12 q.cs)))
      (fun _ => not_eq (tru_eq (d := dCall (lev D (k + n + 3) 3) (dCons (dVar 2) (dCons (dBin vAdd (dC (.int 6)) (dC (.int 1))) dNil))) (x := true) (by
        rw [e_call, e_cons, dv rfl, Res.bind_ok, e_cons, e_bin, e_c, Res.bind_ok, e_c, Res.bind_ok, vAdd_int, Res.bind_ok, e_nil, Res.bind_ok, Res.bind_ok, Res.bind_ok]
        refine (num_eq (k := k + n + 2) (q := 7) (v := .int tr) (h := h) trivial).trans ?_
        have : numB 7 (.int tr) = true := by have := q.tr; simp [numB]; omega
        rw [this])))
    simpa using this)]
  rw [no_if (c := false) (or_eq (x := false) (y := false) (not_eq (tru_eq (isT_eq (v := .tup T) trivial (dv rfl)))) fun _ => not_eq (tru_eq (isT_eq (v := .tup G) trivial (dv rfl))))]
  rw [no_if (c := !(decide (1 ≤ G.length) && decide (G.length ≤ 300)) || !G.all isB) (by
    refine or_eq (h := h) (not_eq (?_)) (fun _ => not_eq (tru_eq (?_)))
    · rw [chain_eq (a := 1) (b := G.length) (c := 300) (by rfl) (by rw [e_len, dv rfl, Res.bind_ok, vLen_tup]) (by rfl)]
      congr 2
      · exact decide_eq_decide.mpr (by omega)
      · exact decide_eq_decide.mpr (by omega)
    · rw [e_fn]
      have e2 := dlc_eq (vs := [6]) (di := iSeq (dVar 4)) (t := gName 6) (e := dIsi .bool (dVar 6)) (l := [some (Qv n cs tr T G), some (kv n cs), some (.int tr), some (.tup T), some (.tup G), none, none]) (h := h) (fun x : Val => x) (fun x => .bl (isB x)) G (by rw [e_iseq, dv rfl, Res.bind_ok, vIter_tup, List.map_id']) fun x hx0 => ⟨[some (Qv n cs tr T G), some (kv n cs), some (.int tr), some (.tup T), some (.tup G), none, some x], rfl, isB_eq (q.tG x hx0) (dv rfl)⟩
      refine (congrArg (fun r : Res Val => r.bind vAll) e2).trans ?_
      rw [Res.bind_ok, vAll_map])]
  rw [no_if (c := !decide (T.length = cs.length * 2 ^ tr)) (by
    rw [e_b, e_bin, e_len, dv rfl, Res.bind_ok, vLen_tup, Res.bind_ok, e_bin, e_len, e_bin, dv rfl, Res.bind_ok, e_c, Res.bind_ok, kv1, Res.bind_ok, vLen_tup, Res.bind_ok, e_len, e_call, e_cons, dv rfl, Res.bind_ok, e_nil, Res.bind_ok, Res.bind_ok, marks_eq (k := k + n + 2) q.tr, Res.bind_ok, vLen_lst, Res.bind_ok, List.length_map, List.length_map, marks_len,
      vMul_ok _ (.inl (big_of (by omega) (by omega))), Res.bind_ok, vNe_int, resB_bl]
    congr 2
    exact decide_eq_decide.mpr (by rw [← Int.natCast_mul]; omega))]
  have e5 : dLc frozen [5] (iSeq (dVar 3)) (gName 5) dYes (dCall (lev D (k + n + 3) 4) (dCons (dVar 5) (dCons (dLen (dVar 4)) (dCons (dBin vIx (dVar 1) (dC (.int 0))) dNil)))) [some (Qv n cs tr T G), some (kv n cs), some (.int tr), some (.tup T), some (.tup G), none, none] h = .ok (.lst (T.map fun x => .bl (rowB n G.length x))) h := by
    have := dlc_eq (vs := [5]) (di := iSeq (dVar 3)) (t := gName 5) (e := dCall (lev D (k + n + 3) 4) (dCons (dVar 5) (dCons (dLen (dVar 4)) (dCons (dBin vIx (dVar 1) (dC (.int 0))) dNil)))) (l := [some (Qv n cs tr T G), some (kv n cs), some (.int tr), some (.tup T), some (.tup G), none, none]) (h := h) (fun x : Val => x) (fun x => .bl (rowB n G.length x)) T (by rw [e_iseq, dv rfl, Res.bind_ok, vIter_tup, List.map_id']) fun x hx0 => ⟨[some (Qv n cs tr T G), some (kv n cs), some (.int tr), some (.tup T), some (.tup G), some x, none], rfl, by
      rw [e_call, e_cons, dv rfl, Res.bind_ok, e_cons, e_len, dv rfl, Res.bind_ok, vLen_tup, Res.bind_ok, e_cons, e_bin, dv rfl, Res.bind_ok, e_c, Res.bind_ok, kv0, Res.bind_ok, e_nil, Res.bind_ok, Res.bind_ok, Res.bind_ok, Res.bind_ok, show k + n + 3 = (k + 1) + n + 2 by omega]
      exact row_eq n (q.tT x hx0)⟩
    exact this
  have last : sSeq (sRet (dFn vAll (dLc frozen [5] (iSeq (dVar 3)) (gName 5) dYes (dCall (lev D (k + n + 3) 4) (dCons (dVar 5) (dCons (dLen (dVar 4)) (dCons (dBin vIx (dVar 1) (dC (.int 0))) dNil))))))) sNext [some (Qv n cs tr T G), some (kv n cs), some (.int tr), some (.tup T), some (.tup G), none, none] h = .rt (.bl (T.all (rowB n G.length))) h := by
    refine ret_eq ?_
    rw [e_fn]
    refine (congrArg (fun r : Res Val => r.bind vAll) e5).trans ?_
    rw [Res.bind_ok, vAll_map]
  rw [last]
  unfold imB
  cases kdB cs <;> cases decide (1 ≤ G.length) <;> cases decide (G.length ≤ 300) <;> cases G.all isB <;> cases decide (T.length = cs.length * 2 ^ tr) <;> simp
end L07
set_option Elab.async false
set_option linter.all false
set_option maxRecDepth 100000
set_option maxHeartbeats 1000000
set_option autoImplicit false
namespace L07
open GH PySem
variable [TheWorld]
theorem lt_one (a b : Nat) : decide (([a] : List Nat) < [b]) = decide (a < b) := by
  refine decide_eq_decide.mpr ?_
  constructor
  · intro h
    rcases h with _ | h | h
    · assumption
    · rename_i h; cases h
  · intro h; exact List.Lex.rel h
theorem vList_tup (L : List Val) (h : Hv) : vList (.tup L) h = .ok (.lst L) h := nrfl rfl
/-- the labels as the law asks them -/
theorem lab_sorted {cs : List Nat} {h : Hv} (hc : cs ∈ KS ∨ cs ∈ KX) (hl : cs.length ≤ 3) : ∃ L : List Val, vSorted (.lst (lbs cs)) h = .ok (.lst L) h ∧ vNe (.lst (lbs cs)) (.lst L) h = .ok (.bl (!kdB cs)) h := by
  have go : ∀ ls M : List Tx, TxOk ls → ls.Perm M → ((M.map sOf).Pairwise fun a b => leS a b = true) → vSorted (.lst (ls.map .str)) h = .ok (.lst (M.map .str)) h := by
    intro ls M o p s
    rw [vSorted_txt o, srt_perm p, srt_id s]
  rcases hc with hc | hc
  · simp only [KS, List.mem_cons, List.not_mem_nil, or_false] at hc
    rcases hc with rfl | rfl | rfl
    · exact ⟨_, go [[97]] [[97]] (by decide +kernel) (List.Perm.refl _) (by decide +kernel), rfl⟩
    · exact ⟨_, go [[97], [98]] [[97], [98]] (by decide +kernel) (List.Perm.refl _) (by decide +kernel), rfl⟩
    · exact ⟨_, go [[98], [100], [122]] [[98], [100], [122]] (by decide +kernel) (List.Perm.refl _) (by decide +kernel), rfl⟩
  · simp only [KX, List.mem_cons, List.not_mem_nil, or_false] at hc
    rcases hc with rfl | rfl | rfl
    · exact ⟨_, go [[97], [99]] [[97], [99]] (by decide +kernel) (List.Perm.refl _) (by decide +kernel), rfl⟩
    · exact ⟨_, go [[98], [97], [99]] [[97], [98], [99]] (by decide +kernel) (List.Perm.swap ..) (by decide +kernel), rfl⟩
    · exact absurd hl (by decide)
theorem lab_facts {cs : List Nat} (hc : cs ∈ KS ∨ cs ∈ KX) : (∀ c ∈ cs, 97 ≤ c ∧ c ≤ 122) ∧ cs.Nodup ∧ (¬ cs.length ≤ 3 → kdB cs = false) := by
  rcases hc with hc | hc
  · simp only [KS, List.mem_cons, List.not_mem_nil, or_false] at hc
    rcases hc with rfl | rfl | rfl <;> decide
  · simp only [KX, List.mem_cons, List.not_mem_nil, or_false] at hc
    rcases hc with rfl | rfl | rfl <;> decide
theorem vNe_nil {h : Hv} : vNe (.lst []) (.lst []) h = .ok (.bl false) h := (vEq_lnil [] rfl h).2
theorem limq_eq {k n tr : Nat} {cs : List Nat} {T G : List Val} {h : Hv} (q : QOk n cs tr T G) (oT : okVs T = true) (oG : okVs G = true) : lev D (k + n + 2) 28 [Qv n cs tr T G] h = .ok (.bl (imB n cs tr T G)) h := by
  show runDef 9 (b__law_is_machine (lev D (k + n + 1))) [Qv n cs tr T G] h = _
  refine run_rt ?_
  show b__law_is_machine (lev D (k + n + 1)) [some (Qv n cs tr T G), none, none, none, none, none, none, none, none] h = _
  have two : 2 ^ tr ≤ 64 := pow_le q.tr
  have cl := q.cl
  obtain ⟨lf, lnd, l4⟩ := lab_facts q.cs
  unfold b__law_is_machine
  rw [asg2_eq (v := Qv n cs tr T G) (h1 := h) (dv rfl) (show gTup 4 _ (Qv n cs tr T G) _ h = .ok [some (Qv n cs tr T G), none, some (kv n cs), some (.int tr), some (.tup T), some (.tup G), none, none, none] h from rfl)]
  rw [no_if (c := !decide (cs.length ≤ 3) || !(decide (1 ≤ G.length) && decide (G.length ≤ 300))) (by
    have a1 : dB (dBin vNotIn (dBin vIx (dVar 2) (dC (.int 0))) (dLst (dCons (dC (.int 1)) (dCons (dC (.int 2)) dNil)))) [some (Qv n cs tr T G), none, some (kv n cs), some (.int tr), some (.tup T), some (.tup G), none, none, none] h = .ok false h := by
      rw [e_b, e_bin, e_bin, dv rfl, Res.bind_ok, e_c, Res.bind_ok, kv0, Res.bind_ok, e_lst, e_cons, e_c, Res.bind_ok, e_cons, e_c, Res.bind_ok, e_nil, Res.bind_ok, Res.bind_ok, Res.bind_ok, mkL_ok (by simp), Res.bind_ok]
      rcases q.n12 with rfl | rfl <;> rfl
    have a2 : dB (dChain vLe vLe (dC (.int 1)) (dLen (dBin vIx (dVar 2) (dC (.int 1)))) (dC (.int 3))) [some (Qv n cs tr T G), none, some (kv n cs), some (.int tr), some (.tup T), some (.tup G), none, none, none] h = .ok (decide (cs.length ≤ 3)) h := by
      rw [chain_eq (a := 1) (b := cs.length) (c := 3) (by rfl) (by rw [e_len, e_bin, dv rfl, Res.bind_ok, e_c, Res.bind_ok, kv1, Res.bind_ok, vLen_tup, List.length_map]) (by rfl), decide_eq_true (show (1 : Int) ≤ cs.length by omega), Bool.true_and]
      congr 1
      exact decide_eq_decide.mpr (by omega)
    have a3 : dB (dChain vLe vLe (dC (.int 0)) (dVar 3) (dC (.int 6))) [some (Qv n cs tr T G), none, some (kv n cs), some (.int tr), some (.tup T), some (.tup G), none, none, none] h = .ok true h := by
      have := q.tr
      rw [chain_eq (a := 0) (b := tr) (c := 6) (by rfl) (dv rfl) (by rfl), decide_eq_true (by omega), decide_eq_true (by omega)]
      rfl
    have a4 : dB (dChain vLe vLe (dC (.int 1)) (dLen (dVar 5)) (dC (.int 300))) [some (Qv n cs tr T G), none, some (kv n cs), some (.int tr), some (.tup T), some (.tup G), none, none, none] h = .ok (decide (1 ≤ G.length) && decide (G.length ≤ 300)) h := by
      rw [chain_eq (a := 1) (b := G.length) (c := 300) (by rfl) (by rw [e_len, dv rfl, Res.bind_ok, vLen_tup]) (by rfl)]
      congr 2
      · exact decide_eq_decide.mpr (by omega)
      · exact decide_eq_decide.mpr (by omega)
    have := or_eq a1 fun _ => or_eq (not_eq a2) fun _ => or_eq (not_eq a3) fun _ => not_eq a4
    simpa using this)]
  rw [set_eq (v := .lst (lbs cs)) (h1 := h) (by rw [e_fn, e_bin, dv rfl, Res.bind_ok, e_c, Res.bind_ok, kv1, Res.bind_ok, vList_tup])]
  show (if _ then _ else sSeq _ _ [some (Qv n cs tr T G), some (.lst (lbs cs)), some (kv n cs), some (.int tr), some (.tup T), some (.tup G), none, none, none] h) = _
  cases c3 : decide (cs.length ≤ 3) with
  | false =>
    have := l4 (of_decide_eq_false c3)
    simp [imB, this]
  | true =>
    have c3 := of_decide_eq_true c3
    obtain ⟨L, es, en⟩ := lab_sorted (h := h) q.cs c3
    rw [no_if (c := !kdB cs) (by
      have b1 : dB (dBin vNe (dVar 1) (dFn vSorted (dVar 1))) [some (Qv n cs tr T G), some (.lst (lbs cs)), some (kv n cs), some (.int tr), some (.tup T), some (.tup G), none, none, none] h = .ok (!kdB cs) h := by
        rw [e_b, e_bin, dv rfl, Res.bind_ok, e_fn, dv rfl, Res.bind_ok, es, Res.bind_ok, en, resB_bl]
      have b2 : dLc frozen [8] (iRange2 (dC (.int 1)) (dLen (dVar 1))) (gName 8) (dB (dBin vEq (dBin vIx (dVar 1) (dVar 8)) (dBin vIx (dVar 1) (dBin vSub (dVar 8) (dC (.int 1)))))) (dVar 8) [some (Qv n cs tr T G), some (.lst (lbs cs)), some (kv n cs), some (.int tr), some (.tup T), some (.tup G), none, none, none] h = .ok (.lst (((List.range (cs.length - 1)).filter fun _ => false).map fun i : Nat => Val.int ((i : Int) + 1))) h := by
        refine dlcF_eq (fun i : Nat => Val.int ((i : Int) + 1)) _ (fun _ => false) (List.range (cs.length - 1)) ?_ fun i hi => ?_
        · rw [e_rng2, e_c, Res.bind_ok, e_len, dv rfl, Res.bind_ok, vLen_lst, Res.bind_ok, List.length_map, vRange2_ok (by omega) (by omega) (by omega) (by omega) (by omega)]
          congr 2
          simp only [rangeL]
          rw [show ((cs.length : Int) - 1).toNat = cs.length - 1 by omega]
          exact List.map_congr_left fun i _ => by rw [Int.add_comm]
        · have hi := List.mem_range.mp hi
          have i1 : i + 1 < cs.length := by omega
          refine ⟨[some (Qv n cs tr T G), some (.lst (lbs cs)), some (kv n cs), some (.int tr), some (.tup T), some (.tup G), none, none, some (.int ((i : Int) + 1))], rfl, ?_, fun z => by cases z⟩
          rw [e_b, e_bin, e_bin, dv rfl, Res.bind_ok, dv rfl, Res.bind_ok, vIx_lst (v := .str [cs[i + 1]]) (by
            rw [show ((i : Int) + 1) = ((i + 1 : Nat) : Int) by omega]
            exact nth_nat (by rw [List.getElem?_map, List.getElem?_eq_getElem i1]; rfl)), Res.bind_ok, e_bin, dv rfl, Res.bind_ok, e_bin, dv rfl, Res.bind_ok, e_c, Res.bind_ok, vSub_int, Res.bind_ok, show (i : Int) + 1 - 1 = (i : Nat) by omega, vIx_lst (v := .str [cs[i]]) (nth_nat (by rw [List.getElem?_map, List.getElem?_eq_getElem (by omega)]; rfl)), Res.bind_ok, vEq_str, resB_bl]
          rw [decide_eq_false]
          intro z
          injection z with z
          exact List.pairwise_iff_getElem.mp lnd i (i + 1) (by omega) i1 (by omega) z.symm
      rw [show (!kdB cs) = (!kdB cs || false) by simp]
      refine or_eq b1 fun _ => ?_
      rw [e_b, e_bin]
      refine (congrArg (fun r : Res Val => resB (r.bind _)) b2).trans ?_
      rw [Res.bind_ok, e_lst, e_nil, Res.bind_ok, mkL_ok (by simp), Res.bind_ok, show (List.range (cs.length - 1)).filter (fun _ => false) = [] from List.filter_eq_nil_iff.mpr (by simp), List.map_nil, vNe_nil, resB_bl])]
    rw [no_if (c := false) (by
      have b3 : dLc frozen [6] (iSeq (dVar 1)) (gName 6) (dOr (dB (dBin vNe (dLen (dVar 6)) (dC (.int 1)))) (dNot (dB (dChain vLeS vLeS (dC (.str [97])) (dVar 6) (dC (.str [122])))))) (dVar 6) [some (Qv n cs tr T G), some (.lst (lbs cs)), some (kv n cs), some (.int tr), some (.tup T), some (.tup G), none, none, none] h = .ok (.lst ((cs.filter fun _ => false).map fun c => Val.str [c])) h := by
        refine dlcF_eq (fun c : Nat => Val.str [c]) _ (fun _ => false) cs (by rw [e_iseq, dv rfl, Res.bind_ok, vIter_lst]) fun c hc => ?_
        obtain ⟨f1, f2⟩ := lf c hc
        refine ⟨[some (Qv n cs tr T G), some (.lst (lbs cs)), some (kv n cs), some (.int tr), some (.tup T), some (.tup G), some (.str [c]), none, none], rfl, ?_, fun z => by cases z⟩
        have a1 : vLeS (.str [97]) (.str [c]) h = .ok (.bl true) h := by
          simp only [vCmpS, lt_one]
          rw [decide_eq_false (by omega)]
          rfl
        have a2 : vLeS (.str [c]) (.str [122]) h = .ok (.bl true) h := by
          simp only [vCmpS, lt_one]
          rw [decide_eq_false (by omega)]
          rfl
        refine or_eq (x := false) (y := false) ?_ fun _ => not_eq (x := true) ?_
        · rw [e_b, e_bin, e_len, dv rfl, Res.bind_ok, len_str (by simp), Res.bind_ok, e_c, Res.bind_ok, vNe_int]
          rfl
        · rw [e_b, e_chain, e_c, Res.bind_ok, dv rfl, Res.bind_ok, a1, Res.bind_ok]
          show resB ((dC (.str [122]) _ h).bind fun w h4 => vLeS (.str [c]) w h4) = _
          rw [e_c, Res.bind_ok, a2]
          rfl
      rw [e_b, e_bin]
      refine (congrArg (fun r : Res Val => resB (r.bind _)) b3).trans ?_
      rw [Res.bind_ok, e_lst, e_nil, Res.bind_ok, mkL_ok (by simp), Res.bind_ok, show cs.filter (fun _ => false) = [] from List.filter_eq_nil_iff.mpr (by simp), List.map_nil, vNe_nil, resB_bl])]
    rw [no_if (c := !G.all isB || !decide (T.length = cs.length * 2 ^ tr)) (by
      have b4 : dLc frozen [6] (iSeq (dVar 5)) (gName 6) (dNot (dTru (dIsi .bool (dVar 6)))) (dVar 6) [some (Qv n cs tr T G), some (.lst (lbs cs)), some (kv n cs), some (.int tr), some (.tup T), some (.tup G), none, none, none] h = .ok (.lst (G.filter fun x => !isB x)) h := by
        have := dlcF_eq (vs := [6]) (di := iSeq (dVar 5)) (t := gName 6) (c := dNot (dTru (dIsi .bool (dVar 6)))) (e := dVar 6) (l := [some (Qv n cs tr T G), some (.lst (lbs cs)), some (kv n cs), some (.int tr), some (.tup T), some (.tup G), none, none, none]) (h := h) (fun x : Val => x) (fun x => x) (fun x => !isB x) G (by rw [e_iseq, dv rfl, Res.bind_ok, vIter_tup, List.map_id']) fun x hx0 => ⟨[some (Qv n cs tr T G), some (.lst (lbs cs)), some (kv n cs), some (.int tr), some (.tup T), some (.tup G), some x, none, none], rfl, not_eq (tru_eq (isB_eq (q.tG x hx0) (dv rfl))), fun _ => dv rfl⟩
        rw [List.map_id'] at this
        exact this
      refine or_eq ?_ fun _ => ?_
      · rw [e_b, e_bin]
        refine (congrArg (fun r : Res Val => resB (r.bind _)) b4).trans ?_
        rw [Res.bind_ok, e_lst, e_nil, Res.bind_ok, mkL_ok (by simp), Res.bind_ok, (vEq_lnil _ (okVs_fil oG) h).2, fil_nil, resB_bl]
      · rw [e_b, e_bin, e_len, dv rfl, Res.bind_ok, vLen_tup, Res.bind_ok, e_len, e_call, e_cons, dv rfl, Res.bind_ok, e_cons, dv rfl, Res.bind_ok, e_nil, Res.bind_ok, Res.bind_ok, Res.bind_ok, lsigns_eq (k := k + n) (by omega) q.tr, Res.bind_ok, vLen_lst, Res.bind_ok, vNe_int, resB_bl, List.length_map, sg_len]
        congr 2
        exact decide_eq_decide.mpr (by omega))]
    have e5 : dLc frozen [7] (iSeq (dVar 4)) (gName 7) (dNot (dTru (dCall (lev D (k + n + 1) 27) (dCons (dVar 7) (dCons (dLen (dVar 5)) (dCons (dBin vIx (dVar 2) (dC (.int 0))) dNil)))))) (dVar 7) [some (Qv n cs tr T G), some (.lst (lbs cs)), some (kv n cs), some (.int tr), some (.tup T), some (.tup G), none, none, none] h = .ok (.lst (T.filter fun x => !rowB n G.length x)) h := by
      have := dlcF_eq (vs := [7]) (di := iSeq (dVar 4)) (t := gName 7) (c := dNot (dTru (dCall (lev D (k + n + 1) 27) (dCons (dVar 7) (dCons (dLen (dVar 5)) (dCons (dBin vIx (dVar 2) (dC (.int 0))) dNil)))))) (e := dVar 7) (l := [some (Qv n cs tr T G), some (.lst (lbs cs)), some (kv n cs), some (.int tr), some (.tup T), some (.tup G), none, none, none]) (h := h) (fun x : Val => x) (fun x => x) (fun x => !rowB n G.length x) T (by rw [e_iseq, dv rfl, Res.bind_ok, vIter_tup, List.map_id']) fun x hx0 => ⟨[some (Qv n cs tr T G), some (.lst (lbs cs)), some (kv n cs), some (.int tr), some (.tup T), some (.tup G), none, some x, none], rfl, not_eq (tru_eq (by
        rw [e_call, e_cons, dv rfl, Res.bind_ok, e_cons, e_len, dv rfl, Res.bind_ok, vLen_tup, Res.bind_ok, e_cons, e_bin, dv rfl, Res.bind_ok, e_c, Res.bind_ok, kv0, Res.bind_ok, e_nil, Res.bind_ok, Res.bind_ok, Res.bind_ok, Res.bind_ok]
        exact lrow_eq n (q.tT x hx0) (okVs_mem oT hx0))), fun _ => dv rfl⟩
      rw [List.map_id'] at this
      exact this
    rw [ret_eq (v := .bl (T.all (rowB n G.length))) (h1 := h) (by
      rw [e_bin]
      refine (congrArg (fun r : Res Val => r.bind _) e5).trans ?_
      rw [Res.bind_ok, e_lst, e_nil, Res.bind_ok, mkL_ok (by simp), Res.bind_ok, (vEq_lnil _ (okVs_fil oT) h).1, fil_nil])]
    unfold imB
    cases kdB cs <;> cases decide (1 ≤ G.length) <;> cases decide (G.length ≤ 300) <;> cases G.all isB <;> cases decide (T.length = cs.length * 2 ^ tr) <;> simp
end L07
set_option Elab.async false
set_option linter.all false
set_option maxRecDepth 100000
set_option maxHeartbeats 1000000
set_option autoImplicit false
namespace L07
open GH PySem
variable [TheWorld]
/-! machines that are spoilt -/
theorem cut_mem {v : Val} {L : List Val} {a b : Option Int} (h : v ∈ cut L a b) : v ∈ L := by
  unfold cut at h
  exact List.mem_of_mem_drop (List.mem_of_mem_take h)
theorem cut_len {L : List Val} {a b : Option Int} : (cut L a b).length ≤ L.length := by
  unfold cut
  rw [List.length_take, List.length_drop]
  omega
theorem Row.rv {q : Nat} (hq : q ≤ 10000) : ∀ {n : Nat} {v : Val}, Row n q v → RV n v
  | 0, v, ⟨s, _, e⟩ => by subst e; trivial
  | n + 1, v, ⟨L, e, hl, hr⟩ => by
    subst e
    exact ⟨trivial, fun L' e => by cases e; exact ⟨by omega, fun x hx => Row.rv hq (hr x hx)⟩⟩
theorem Row.okv {q : Nat} : ∀ {n : Nat} {v : Val}, Row n q v → okV v = true
  | 0, v, ⟨s, _, e⟩ => by subst e; rfl
  | n + 1, v, ⟨L, e, hl, hr⟩ => by
    subst e
    exact okVs_all fun x hx => Row.okv (hr x hx)
theorem rv_tup {n : Nat} {L : List Val} (hl : L.length ≤ 10000) (h : ∀ x ∈ L, RV n x) : RV (n + 1) (.tup L) := ⟨trivial, fun L' e => by cases e; exact ⟨hl, h⟩⟩
theorem rv_cut {n q : Nat} {L : List Val} {a b : Option Int} (hq : q ≤ 10000) (hl : L.length = q) (h : ∀ x ∈ L, Row n q x) : (∀ x ∈ cut L a b, RV n x) ∧ okVs (cut L a b) = true ∧ (cut L a b).length ≤ 10000 :=
  ⟨fun x hx => (h x (cut_mem hx)).rv hq, okVs_all fun x hx => (h x (cut_mem hx)).okv, by have := cut_len (L := L) (a := a) (b := b); omega⟩
theorem okVs_app {A B : List Val} (a : okVs A = true) (b : okVs B = true) : okVs (A ++ B) = true := okVs_all fun v hv => (List.mem_append.mp hv).elim (okVs_mem a) (okVs_mem b)
theorem okVs_bls (L : List Bool) : okVs (L.map .bl) = true := okVs_all fun v hv => by
  obtain ⟨b, _, rfl⟩ := List.mem_map.mp hv
  rfl
theorem nb_bls (L : List Bool) : ∀ v ∈ L.map Val.bl, Nb v := fun v hv => by
  obtain ⟨b, _, rfl⟩ := List.mem_map.mp hv
  trivial
theorem nb_rv {n : Nat} {v : Val} (h : ∀ L, v ≠ .tup L) (nb : Nb v) : RV n v := by
  cases n with
  | zero => exact nb
  | succ n => exact ⟨nb, fun L e => absurd e (h L)⟩
theorem rev_KX {cs : List Nat} (h : cs ∈ KS) : cs.reverse ++ [99] ∈ KX := by
  simp only [KS, List.mem_cons, List.not_mem_nil, or_false] at h
  rcases h with rfl | rfl | rfl <;> decide
theorem revT {l : List Val} {h : Hv} : vRevT (.tup l) h = .ok (.tup l.reverse) h := rfl
theorem cut1 {L : List Val} {h : Hv} : vCut (.tup L) (some 1) none h = .ok (.tup (cut L (some 1) none)) h := rfl
theorem cutE {L : List Val} {h : Hv} : vCut (.tup L) none (some (-1)) h = .ok (.tup (cut L none (some (-1)))) h := rfl
theorem spoilt_ex {M : Mc} (hM : M.ok) (ht : M.t ≤ 5) {k : Nat} {g h : Hv} (tp : Tp g h) : ∃ cs tr T G h', QOk M.n cs tr T G ∧ okVs T = true ∧ okVs G = true ∧ Tp g h' ∧ lev D (k + 2) 29 [.ref 0, M.val] h = .ok (Qv M.n cs tr T G) h' := by
  obtain ⟨r, h1, hr, tp1, et⟩ := take_tp (k := k) (m := 8) tp (by omega) (by omega)
  suffices z : ∃ cs tr T G, QOk M.n cs tr T G ∧ okVs T = true ∧ okVs G = true ∧ b__law_spoilt (lev D (k + 1)) [some (.ref 0), some M.val, none, none, none, none, none] h = .rt (Qv M.n cs tr T G) h1 by
    obtain ⟨cs, tr, T, G, a, b, c, e⟩ := z
    exact ⟨cs, tr, T, G, h1, a, b, c, tp1, show runDef 7 (b__law_spoilt (lev D (k + 1))) [.ref 0, M.val] h = _ from run_rt e⟩
  have hq := hM.q
  have tl := hM.tab.len
  have kl := KS_len hM.cs
  have two := pow_le hM.t
  have Tl : M.T.length ≤ 1000 := by
    rw [tl]
    have := sg_small (cs := M.cs) (t := M.t) (by omega) hM.t
    show (sg M.cs M.t).length ≤ 1000
    omega
  have gl := hM.gl
  have rT : ∀ v ∈ M.T, RV M.n v := fun v hv => (hM.tab.row v hv).rv (by omega)
  have oT : okVs M.T = true := okVs_all fun v hv => (hM.tab.row v hv).okv
  have rG := nb_bls M.good
  have oG := okVs_bls M.good
  have base : QOk M.n M.cs M.t M.T (M.good.map .bl) := ⟨hM.n12, .inl hM.cs, hM.t, rT, rG, by omega, by simp; omega⟩
  obtain ⟨row, T', eT⟩ : ∃ row T', M.T = row :: T' := by
    cases e : M.T with
    | nil =>
      exfalso
      rw [e] at tl
      have tl : 0 = (sg M.cs M.t).length := tl
      rw [sg_len] at tl
      have : 0 < M.cs.length * 2 ^ M.t := Nat.mul_pos (by omega) (Nat.two_pow_pos _)
      omega
    | cons a b => exact ⟨a, b, rfl⟩
  have hrow := hM.tab.row row (by rw [eT]; exact List.mem_cons_self ..)
  obtain ⟨m, em⟩ : ∃ m, M.n = m + 1 := ⟨M.n - 1, by have := hM.n12; omega⟩
  rw [em] at hrow
  obtain ⟨R, rfl, Rl, Rr⟩ := hrow
  have i0 : vIx (.tup M.T) (.int 0) h1 = .ok (.tup R) h1 := by rw [eT]; exact t0 ..
  have c1 : (∀ v ∈ cut M.T (some 1) none, RV M.n v) ∧ okVs (cut M.T (some 1) none) = true ∧ (cut M.T (some 1) none).length ≤ 1000 := ⟨fun v hv => rT v (cut_mem hv), okVs_all fun v hv => okVs_mem oT (cut_mem hv), by have := cut_len (L := M.T) (a := some 1) (b := none); omega⟩
  obtain ⟨c2, c3, c4⟩ := rv_cut (a := none) (b := some (-1)) (show M.q ≤ 10000 by omega) Rl Rr
  have c5 : (cut R none (some (-1))).length ≤ 1000 := by have := cut_len (L := R) (a := none) (b := some (-1)); omega
  -- a first row and the rest
  have rows : ∀ X : List Val, X.length ≤ 5000 → (∀ v ∈ X, RV m v) → okVs X = true → QOk M.n M.cs M.t (.tup X :: cut M.T (some 1) none) (M.good.map .bl) ∧ okVs (.tup X :: cut M.T (some 1) none) = true := by
    intro X hX rX oX
    refine ⟨⟨hM.n12, .inl hM.cs, hM.t, fun v hv => ?_, rG, by simp; omega, by simp; omega⟩, ?_⟩
    · rcases List.mem_cons.mp hv with rfl | hv
      · rw [em]; exact rv_tup (by omega) rX
      · exact c1.1 v hv
    · have : okV (.tup X) = true := oX
      simp only [okVs, this, c1.2.1, Bool.and_self]
  unfold b__law_spoilt
  rw [asg2_eq (v := M.val) (h1 := h) (dv rfl) (show gTup 4 _ M.val _ h = .ok [some (.ref 0), some M.val, none, some (kv M.n M.cs), some (.int M.t), some (.tup M.T), some (.tup (M.good.map .bl))] h from rfl)]
  rw [set_eq (v := .int r) (h1 := h1) (by rw [e_call, e_cons, dv rfl, Res.bind_ok, e_cons, e_c, Res.bind_ok, e_nil, Res.bind_ok, Res.bind_ok, Res.bind_ok]; exact et)]
  show ∃ cs tr T G, _ ∧ _ ∧ _ ∧ sSeq _ _ [some (.ref 0), some M.val, some (.int r), some (kv M.n M.cs), some (.int M.t), some (.tup M.T), some (.tup (M.good.map .bl))] h1 = _
  have o1 : ∀ {i : Int} {l : GH.Loc}, oSome (dC (.int i)) l h1 = .ok (some i) h1 := rfl
  have o2 : ∀ {l : GH.Loc}, oSome (dNeg (dC (.int 1))) l h1 = .ok (some (-1)) h1 := rfl
  obtain rfl | rfl | rfl | rfl | rfl | rfl | rfl | rfl : r = 0 ∨ r = 1 ∨ r = 2 ∨ r = 3 ∨ r = 4 ∨ r = 5 ∨ r = 6 ∨ r = 7 := by omega
  · refine ⟨M.cs.reverse ++ [99], M.t, M.T, M.good.map .bl, ⟨hM.n12, .inr (rev_KX hM.cs), hM.t, rT, rG, by omega, by simp; omega⟩, oT, oG, ?_⟩
    rw [if_t (h1 := h1) (by rfl), ret_eq (v := Qv M.n (M.cs.reverse ++ [99]) M.t M.T (M.good.map .bl)) (h1 := h1) (by
      rw [e_tup, e_cons, e_tup, e_cons, e_bin, dv rfl, Res.bind_ok, e_c, Res.bind_ok, kv0, Res.bind_ok, e_cons, e_bin, e_fn, e_bin, dv rfl, Res.bind_ok, e_c, Res.bind_ok, kv1, Res.bind_ok, revT, Res.bind_ok, e_tup, e_cons, e_c, Res.bind_ok, e_nil, Res.bind_ok, Res.bind_ok, mkT_ok (by simp), Res.bind_ok, add_tup (by simp; omega), Res.bind_ok, e_nil, Res.bind_ok, Res.bind_ok, Res.bind_ok, mkT_ok (by simp), Res.bind_ok,
        e_cons, dv rfl, Res.bind_ok, e_cons, dv rfl, Res.bind_ok, e_cons, dv rfl, Res.bind_ok, e_nil, Res.bind_ok, Res.bind_ok, Res.bind_ok, Res.bind_ok, Res.bind_ok, mkT_ok (by simp)]
      simp [Qv, lbs])]
    rfl
  · refine ⟨M.cs, M.t + 1, M.T, M.good.map .bl, ⟨hM.n12, .inl hM.cs, by omega, rT, rG, by omega, by simp; omega⟩, oT, oG, ?_⟩
    rw [if_f (h1 := h1) (by rfl), if_t (h1 := h1) (by rfl), ret_eq (v := Qv M.n M.cs (M.t + 1) M.T (M.good.map .bl)) (h1 := h1) (by
      rw [e_tup, e_cons, dv rfl, Res.bind_ok, e_cons, e_bin, dv rfl, Res.bind_ok, e_c, Res.bind_ok, vAdd_int, Res.bind_ok, e_cons, dv rfl, Res.bind_ok, e_cons, dv rfl, Res.bind_ok, e_nil, Res.bind_ok, Res.bind_ok, Res.bind_ok, Res.bind_ok, Res.bind_ok, mkT_ok (by simp)]
      rfl)]
    rfl
  · refine ⟨M.cs, M.t, cut M.T (some 1) none, M.good.map .bl, ⟨hM.n12, .inl hM.cs, hM.t, c1.1, rG, by omega, by simp; omega⟩, c1.2.1, oG, ?_⟩
    rw [if_f (h1 := h1) (by rfl), if_f (h1 := h1) (by rfl), if_t (h1 := h1) (by rfl), ret_eq (v := Qv M.n M.cs M.t (cut M.T (some 1) none) (M.good.map .bl)) (h1 := h1) (by
      rw [e_tup, e_cons, dv rfl, Res.bind_ok, e_cons, dv rfl, Res.bind_ok, e_cons, e_cut, dv rfl, Res.bind_ok, o1, Res.bind_ok, e_onone, Res.bind_ok, cut1, Res.bind_ok, e_cons, dv rfl, Res.bind_ok, e_nil, Res.bind_ok, Res.bind_ok, Res.bind_ok, Res.bind_ok, Res.bind_ok, mkT_ok (by simp)])]
    rfl
  · refine ⟨M.cs, M.t, M.T, M.good.map .bl ++ [.bl true], ⟨hM.n12, .inl hM.cs, hM.t, rT, fun v hv => ?_, by omega, by simp; omega⟩, oT, okVs_app oG rfl, ?_⟩
    · rcases List.mem_append.mp hv with hv | hv
      · exact rG v hv
      · rw [List.mem_singleton.mp hv]; trivial
    · rw [if_f (h1 := h1) (by rfl), if_f (h1 := h1) (by rfl), if_f (h1 := h1) (by rfl), if_t (h1 := h1) (by rfl), ret_eq (v := Qv M.n M.cs M.t M.T (M.good.map .bl ++ [.bl true])) (h1 := h1) (by
        rw [e_tup, e_cons, dv rfl, Res.bind_ok, e_cons, dv rfl, Res.bind_ok, e_cons, dv rfl, Res.bind_ok, e_cons, e_bin, dv rfl, Res.bind_ok, e_tup, e_cons, e_c, Res.bind_ok, e_nil, Res.bind_ok, Res.bind_ok, mkT_ok (by simp), Res.bind_ok, add_tup (by simp; omega), Res.bind_ok, e_nil, Res.bind_ok, Res.bind_ok, Res.bind_ok, Res.bind_ok, Res.bind_ok, mkT_ok (by simp)])]
      rfl
  · refine ⟨M.cs, M.t, M.T, cut (M.good.map .bl) none (some (-1)) ++ [.int 1], ⟨hM.n12, .inl hM.cs, hM.t, rT, fun v hv => ?_, by omega, by have := cut_len (L := M.good.map .bl) (a := none) (b := some (-1)); simp at this ⊢; omega⟩, oT, okVs_app (okVs_all fun v hv => okVs_mem oG (cut_mem hv)) rfl, ?_⟩
    · rcases List.mem_append.mp hv with hv | hv
      · exact rG v (cut_mem hv)
      · rw [List.mem_singleton.mp hv]; trivial
    · have := cut_len (L := M.good.map .bl) (a := none) (b := some (-1))
      rw [if_f (h1 := h1) (by rfl), if_f (h1 := h1) (by rfl), if_f (h1 := h1) (by rfl), if_f (h1 := h1) (by rfl), if_t (h1 := h1) (by rfl), ret_eq (v := Qv M.n M.cs M.t M.T (cut (M.good.map .bl) none (some (-1)) ++ [.int 1])) (h1 := h1) (by
        rw [e_tup, e_cons, dv rfl, Res.bind_ok, e_cons, dv rfl, Res.bind_ok, e_cons, dv rfl, Res.bind_ok, e_cons, e_bin, e_cut, dv rfl, Res.bind_ok, e_onone, Res.bind_ok, o2, Res.bind_ok, cutE, Res.bind_ok, e_tup, e_cons, e_c, Res.bind_ok, e_nil, Res.bind_ok, Res.bind_ok, mkT_ok (by simp), Res.bind_ok, add_tup (by simp at this ⊢; omega), Res.bind_ok, e_nil, Res.bind_ok, Res.bind_ok, Res.bind_ok, Res.bind_ok, Res.bind_ok, mkT_ok (by simp)])]
      rfl
  · obtain ⟨q1, q2⟩ := rows (cut R none (some (-1))) (by omega) c2 c3
    refine ⟨M.cs, M.t, _, M.good.map .bl, q1, q2, oG, ?_⟩
    rw [if_f (h1 := h1) (by rfl), if_f (h1 := h1) (by rfl), if_f (h1 := h1) (by rfl), if_f (h1 := h1) (by rfl), if_f (h1 := h1) (by rfl), if_t (h1 := h1) (by rfl), ret_eq (v := Qv M.n M.cs M.t (.tup (cut R none (some (-1))) :: cut M.T (some 1) none) (M.good.map .bl)) (h1 := h1) (by
      rw [e_tup, e_cons, dv rfl, Res.bind_ok, e_cons, dv rfl, Res.bind_ok, e_cons, e_bin, e_tup, e_cons, e_cut, e_bin, dv rfl, Res.bind_ok, e_c, Res.bind_ok, i0, Res.bind_ok, e_onone, Res.bind_ok, o2, Res.bind_ok, cutE, Res.bind_ok, e_nil, Res.bind_ok, Res.bind_ok, mkT_ok (by simp), Res.bind_ok, e_cut, dv rfl, Res.bind_ok, o1, Res.bind_ok, e_onone, Res.bind_ok, cut1, Res.bind_ok, add_tup (by simp; omega), Res.bind_ok, e_cons, dv rfl, Res.bind_ok, e_nil, Res.bind_ok, Res.bind_ok, Res.bind_ok, Res.bind_ok, Res.bind_ok, mkT_ok (by simp)]
      rfl)]
    rfl
  · obtain ⟨q1, q2⟩ := rows (cut R none (some (-1)) ++ [.int (M.good.length : Nat)]) (by simp; omega) (fun v hv => by
      rcases List.mem_append.mp hv with hv | hv
      · exact c2 v hv
      · rw [List.mem_singleton.mp hv]; exact nb_rv (fun L e => by cases e) trivial) (okVs_app c3 rfl)
    refine ⟨M.cs, M.t, _, M.good.map .bl, q1, q2, oG, ?_⟩
    rw [if_f (h1 := h1) (by rfl), if_f (h1 := h1) (by rfl), if_f (h1 := h1) (by rfl), if_f (h1 := h1) (by rfl), if_f (h1 := h1) (by rfl), if_f (h1 := h1) (by rfl), if_t (h1 := h1) (by rfl), ret_eq (v := Qv M.n M.cs M.t (.tup (cut R none (some (-1)) ++ [.int (M.good.length : Nat)]) :: cut M.T (some 1) none) (M.good.map .bl)) (h1 := h1) (by
      rw [e_tup, e_cons, dv rfl, Res.bind_ok, e_cons, dv rfl, Res.bind_ok, e_cons, e_bin, e_tup, e_cons, e_bin, e_cut, e_bin, dv rfl, Res.bind_ok, e_c, Res.bind_ok, i0, Res.bind_ok, e_onone, Res.bind_ok, o2, Res.bind_ok, cutE, Res.bind_ok, e_tup, e_cons, e_len, dv rfl, Res.bind_ok, vLen_tup, Res.bind_ok, e_nil, Res.bind_ok, Res.bind_ok, mkT_ok (by simp), Res.bind_ok, add_tup (by simp; omega), Res.bind_ok, e_nil, Res.bind_ok, Res.bind_ok, mkT_ok (by simp), Res.bind_ok, e_cut, dv rfl, Res.bind_ok, o1, Res.bind_ok, e_onone, Res.bind_ok, cut1, Res.bind_ok, add_tup (by simp; omega), Res.bind_ok, e_cons, dv rfl, Res.bind_ok, e_nil, Res.bind_ok, Res.bind_ok, Res.bind_ok, Res.bind_ok, Res.bind_ok, mkT_ok (by simp), List.length_map]
      rfl)]
    rfl
  · obtain ⟨q1, q2⟩ := rows (cut R none (some (-1)) ++ [.bl true]) (by simp; omega) (fun v hv => by
      rcases List.mem_append.mp hv with hv | hv
      · exact c2 v hv
      · rw [List.mem_singleton.mp hv]; exact nb_rv (fun L e => by cases e) trivial) (okVs_app c3 rfl)
    refine ⟨M.cs, M.t, _, M.good.map .bl, q1, q2, oG, ?_⟩
    rw [if_f (h1 := h1) (by rfl), if_f (h1 := h1) (by rfl), if_f (h1 := h1) (by rfl), if_f (h1 := h1) (by rfl), if_f (h1 := h1) (by rfl), if_f (h1 := h1) (by rfl), if_f (h1 := h1) (by rfl)]
    refine ret_eq ?_
    rw [e_tup, e_cons, dv rfl, Res.bind_ok, e_cons, dv rfl, Res.bind_ok, e_cons, e_bin, e_tup, e_cons, e_bin, e_cut, e_bin, dv rfl, Res.bind_ok, e_c, Res.bind_ok, i0, Res.bind_ok, e_onone, Res.bind_ok, o2, Res.bind_ok, cutE, Res.bind_ok, e_tup, e_cons, e_c, Res.bind_ok, e_nil, Res.bind_ok, Res.bind_ok, mkT_ok (by simp), Res.bind_ok, add_tup (by simp; omega), Res.bind_ok, e_nil, Res.bind_ok, Res.bind_ok, mkT_ok (by simp), Res.bind_ok, e_cut, dv rfl, Res.bind_ok, o1, Res.bind_ok, e_onone, Res.bind_ok, cut1, Res.bind_ok, add_tup (by simp; omega), Res.bind_ok, e_cons, dv rfl, Res.bind_ok, e_nil, Res.bind_ok, Res.bind_ok, Res.bind_ok, Res.bind_ok, Res.bind_ok, mkT_ok (by simp)]
    rfl
end L07
set_option Elab.async false
set_option linter.all false
set_option maxRecDepth 100000
set_option maxHeartbeats 1000000
set_option autoImplicit false
namespace L07
open GH PySem
variable [TheWorld]
theorem tape_ex {k : Nat} {ns : List Int} : ∃ h, Tp [] h ∧ lev D (k + 1) 13 [.fz (ns.map .int)] [] = .ok (.ref 0) h := by
  obtain ⟨v, h', e, o, ho, rfl, rfl⟩ := ok_eq (tape_sp (ns := ns) (h := []) (P := fun v h => ∃ o, TapeOb o ∧ v = .ref 0 ∧ h = [o]) fun o ho => ⟨o, ho, rfl, rfl⟩)
  exact ⟨_, ⟨o, ho, rfl⟩, e⟩
theorem kind_ex {k : Nat} {g h : Hv} (tp : Tp g h) : ∃ (n : Nat) (cs : List Nat) (h' : Hv), (n = 1 ∨ n = 2) ∧ cs ∈ KS ∧ Tp g h' ∧ lev D (k + 2) 18 [.ref 0] h = .ok (kv n cs) h' := by
  obtain ⟨o, ho, rfl⟩ := tp
  obtain ⟨v, h', e, n, cs, o', hn, hc, ho', rfl, rfl⟩ := ok_eq (kind_sp (k := k) (g := g) (P := fun v h => ∃ (n : Int) (cs : List Nat) (o' : Ob), (n = 1 ∨ n = 2) ∧ cs ∈ KS ∧ TapeOb o' ∧ v = kv n cs ∧ h = o' :: g) ho fun n cs o' a b c => ⟨n, cs, o', a, b, c, rfl, rfl⟩)
  refine ⟨n.toNat, cs, _, by omega, hc, ⟨o', ho', rfl⟩, ?_⟩
  rw [e, Int.toNat_of_nonneg (by omega)]
theorem same_eq {d k : Nat} {v : Val} {h : Hv} (p : Pl d v) : lev D (k + 2 * d + 2) 17 [v, v] h = .ok (.bl true) h := eq_of (same_refl d v p ⟨rfl, rfl⟩)
theorem rowB_row {q : Nat} : ∀ {n : Nat} {v : Val}, Row n q v → rowB n q v = true
  | 0, v, ⟨s, hs, e⟩ => by subst e; simp [rowB, numB]; omega
  | n + 1, v, ⟨L, e, hl, hr⟩ => by
    subst e
    simp only [rowB, hl, decide_true, Bool.true_and, List.all_eq_true]
    exact fun x hx => rowB_row (hr x hx)
theorem KS_kdB {cs : List Nat} (h : cs ∈ KS) : kdB cs = true := decide_eq_true (List.mem_cons_of_mem _ h)
theorem Mc.quad {M : Mc} (hM : M.ok) : QOk M.n M.cs M.t M.T (M.good.map .bl) ∧ imB M.n M.cs M.t M.T (M.good.map .bl) = true := by
  have hq := hM.q
  have tl := hM.tab.len
  have gl := hM.gl
  have pos := hM.tab.pos
  have sm : (sg M.cs M.t).length ≤ 640 := sg_small (by have := (KS_len hM.cs).2.1; omega) hM.t
  have tl2 : M.T.length = (sg M.cs M.t).length := tl
  refine ⟨⟨hM.n12, .inl hM.cs, hM.t, fun v hv => (hM.tab.row v hv).rv (by omega), nb_bls _, by omega, by simp; omega⟩, ?_⟩
  have a1 : (M.good.map Val.bl).all isB = true := by
    rw [List.all_map]
    simp [isB]
  have a2 : M.T.all (rowB M.n (M.good.map Val.bl).length) = true := by
    rw [List.all_eq_true, List.length_map, gl]
    exact fun v hv => rowB_row (hM.tab.row v hv)
  unfold imB
  rw [KS_kdB hM.cs, a1, a2, tl2, sg_len, List.length_map, decide_eq_true (show 1 ≤ M.good.length by omega), decide_eq_true (show M.good.length ≤ 300 by omega)]
  simp
theorem pl_bv (m : List Nat) (d : Nat) (h : m.length ≤ 1000) : Pl (d + 1) (bv m) := ⟨by simp; omega, fun v hv => by
  obtain ⟨b, _, rfl⟩ := List.mem_map.mp hv
  cases d <;> trivial⟩
theorem pl_sv (p : Nat × List Nat) (d : Nat) (h : p.2.length ≤ 1000) : Pl (d + 2) (sv p) := ⟨by simp, fun v hv => by
  simp only [List.mem_cons, List.not_mem_nil, or_false] at hv
  rcases hv with rfl | rfl
  · trivial
  · exact pl_bv _ d h⟩
theorem sg_two {cs : List Nat} {t : Nat} {p : Nat × List Nat} (ht : t ≤ 6) (h : p ∈ sg cs t) : p.2.length ≤ 1000 := by
  have := marks_one t _ (sg_mem h).2
  omega
theorem pl_ms {n t : Nat} {cs : List Nat} (ht : t ≤ 6) : ∀ {m : Ms} (d : Nat), m.size ≤ d → m.good n (sg cs t) → Pl (d + 3) m.val
  | .nil, d, _, _ => ⟨by simp, fun v hv => by cases hv⟩
  | .one p a, d, hd, ⟨_, hp, ha⟩ => by
    simp only [Ms.size] at hd
    obtain ⟨e, rfl⟩ : ∃ e, d = e + 1 := ⟨d - 1, by omega⟩
    refine ⟨by simp, fun v hv => ?_⟩
    simp only [List.mem_cons, List.not_mem_nil, or_false] at hv
    rcases hv with rfl | rfl
    · exact pl_sv p (e + 1) (sg_two ht hp)
    · exact pl_ms ht e (by omega) ha
  | .two p a b, d, hd, ⟨_, hp, ha, hb⟩ => by
    simp only [Ms.size] at hd
    obtain ⟨e, rfl⟩ : ∃ e, d = e + 1 := ⟨d - 1, by omega⟩
    refine ⟨by simp, fun v hv => ?_⟩
    simp only [List.mem_cons, List.not_mem_nil, or_false] at hv
    rcases hv with rfl | rfl | rfl
    · exact pl_sv p (e + 1) (sg_two ht hp)
    · exact pl_ms ht e (by omega) ha
    · exact pl_ms ht e (by omega) hb
/-! the sets -/
theorem app_at2 {l : GH.Loc} {h h1 : Hv} {i j : Nat} {L L0 : List Val} {v : Val} {d : Den} (e : l[i]? = some (some (.ref j))) (x0 : h[j]? = some (.lst L0)) (ed : d l h = .ok v h1) (x : h1[j]? = some (.lst L)) (n : L.length < 16777216) : dMeth1 isLst vAppend (dVar i) d l h = .ok .non (h1.set j (.lst (L ++ [v]))) := by
  rw [e_meth1, dv e, Res.bind_ok, if_pos (isLst_ref x0), ed, Res.bind_ok]
  exact append_ref x n
noncomputable abbrev seB (G : Gam) : Stm := (sSeq (sExpr (dMeth1 isLst vAppend (dVar 7) (dFn vTuple (dLc frozen [12] (iSeq (dFn vSorted (dCall (G 20) (dCons (dVar 6) (dCons (dTup dNil) dNil))))) (gName 12) (dB (dBin vEq (dCall (G 14) (dCons (dVar 1) (dCons (dC (.int 2)) dNil))) (dC (.int 1)))) (dVar 12))))) sNext)
theorem seB_eq {k n : Nat} {cs : List Nat} {s : Sh} {X : Sets} {g0 : Ob} {a b c d e w x y z u : Option Val} {h : Hv} (hc : ∀ c ∈ cs, c ≤ 122) (hg : s.good n cs) (hs : s.size ≤ 20) (hX : X.length ≤ 1000) (tp : Tp [g0, .lst (X.map tv)] h) :
    ∃ S h', Tp [g0, .lst ((X ++ [S]).map tv)] h' ∧ seB (lev D (k + 60)) [a, some (.ref 0), b, c, d, e, some s.val, some (.ref 2), w, x, y, z, u] h = .nx [a, some (.ref 0), b, c, d, e, some s.val, some (.ref 2), w, x, y, z, u] h' := by
  obtain ⟨L, _, _, eL⟩ := sorted_pv (l := pathsOf s []) (paths_hd s) h
  have ep : lev D (k + 60) 20 [s.val, .tup []] h = .ok (.lst ((pathsOf s []).map pv)) h := by
    have := lp_eq (h := h) hc s (k := k + (59 - s.size)) (p := []) hg (by simp; omega)
    rw [show k + (59 - s.size) + s.size + 1 = k + 60 by omega] at this
    exact this
  have ed : iSeq (dFn vSorted (dCall (lev D (k + 60) 20) (dCons (dVar 6) (dCons (dTup dNil) dNil)))) [a, some (.ref 0), b, c, d, e, some s.val, some (.ref 2), w, x, y, z, u] h = .ok (L.map pv, none) h := by
    rw [e_iseq, e_fn, e_call, e_cons, dv rfl, Res.bind_ok, e_cons, e_tup, e_nil, Res.bind_ok, mkT_ok (by simp), Res.bind_ok, e_nil, Res.bind_ok, Res.bind_ok, Res.bind_ok, ep, Res.bind_ok, eL, Res.bind_ok, vIter_lst]
  obtain ⟨S, h1, e1, o1, ho1, rfl⟩ := lcF_ex (s := (L.map pv, none)) (t := gName 12) (c := dB (dBin vEq (dCall (lev D (k + 60) 14) (dCons (dVar 1) (dCons (dC (.int 2)) dNil))) (dC (.int 1)))) (e := dVar 12) (l := [a, some (.ref 0), b, c, d, e, some s.val, some (.ref 2), w, x, y, z, none]) pv (Tp [g0, .lst (X.map tv)]) (fun _ _ => trivial) L [] h (fun p _ h2 tp2 => by
    obtain ⟨r, h3, hr, tp3, et⟩ := take_tp (k := k + 59) (m := 2) tp2 (by omega) (by omega)
    refine ⟨[a, some (.ref 0), b, c, d, e, some s.val, some (.ref 2), w, x, y, z, some (pv p)], decide ((r : Int) = 1), h3, rfl, ?_, tp3, fun _ => rfl⟩
    rw [e_b, e_bin, e_call, e_cons, dv rfl, Res.bind_ok, e_cons, e_c, Res.bind_ok, e_nil, Res.bind_ok, Res.bind_ok, Res.bind_ok]
    refine (congrArg (fun z : Res Val => resB (z.bind _)) et).trans ?_
    rw [Res.bind_ok, e_c, Res.bind_ok, vEq_int, resB_bl]) tp
  obtain ⟨o0, ho0, rfl⟩ := tp
  refine ⟨S, [o1, g0, .lst ((X ++ [S]).map tv)], ⟨o1, ho1, rfl⟩, ?_⟩
  unfold seB
  rw [expr_eq (app_at2 (j := 2) (L := X.map tv) (L0 := X.map tv) (v := tv S) (h1 := [o1, g0, .lst (X.map tv)]) rfl rfl (by
    rw [e_fn]
    unfold dLc
    rw [ed, Res.bind_ok]
    refine (congrArg (fun z : Res (List Val) => (z.bind frozen).bind vTuple) e1).trans ?_
    rfl) rfl (by simp; omega)), e_next]
  simp
end L07
set_option Elab.async false
set_option linter.all false
set_option maxRecDepth 100000
set_option maxHeartbeats 1000000
set_option autoImplicit false
namespace L07
open GH PySem
variable [TheWorld]
abbrev L13 (a b c d e f g i j k l m n : Option Val) : GH.Loc := [a, b, c, d, e, f, g, i, j, k, l, m, n]
theorem same60 {d k : Nat} {v : Val} {h : Hv} (hd : d ≤ 20) (p : Pl d v) : lev D (k + 60) 17 [v, v] h = .ok (.bl true) h := by
  have := same_eq (k := k + (58 - 2 * d)) (h := h) p
  rw [show k + (58 - 2 * d) + 2 * d + 2 = k + 60 by omega] at this
  exact this
theorem callS {G : DF} {a b : Den} {v u w : Val} {l : GH.Loc} {h h1 h2 h3 : Hv} (ea : a l h = .ok v h1) (eb : b l h1 = .ok u h2) (eG : G [v, u] h2 = .ok w h3) : dCall G (dCons a (dCons b dNil)) l h = .ok w h3 := by
  rw [e_call, e_cons, ea, Res.bind_ok, e_cons, eb, Res.bind_ok, e_nil, Res.bind_ok, Res.bind_ok, Res.bind_ok, eG]
theorem call1 {G : DF} {a : Den} {v w : Val} {l : GH.Loc} {h h1 h3 : Hv} (ea : a l h = .ok v h1) (eG : G [v] h1 = .ok w h3) : dCall G (dCons a dNil) l h = .ok w h3 := by
  rw [e_call, e_cons, ea, Res.bind_ok, e_nil, Res.bind_ok, Res.bind_ok, eG]
theorem call3 {G : DF} {a b c : Den} {v u x w : Val} {l : GH.Loc} {h h1 h2 h3 h4 : Hv} (ea : a l h = .ok v h1) (eb : b l h1 = .ok u h2) (ec : c l h2 = .ok x h3) (eG : G [v, u, x] h3 = .ok w h4) : dCall G (dCons a (dCons b (dCons c dNil))) l h = .ok w h4 := by
  rw [e_call, e_cons, ea, Res.bind_ok, e_cons, eb, Res.bind_ok, e_cons, ec, Res.bind_ok, e_nil, Res.bind_ok, Res.bind_ok, Res.bind_ok, Res.bind_ok, eG]
theorem call4 {G : DF} {a b c d : Den} {v u x y w : Val} {l : GH.Loc} {h h1 h2 h3 h4 h5 : Hv} (ea : a l h = .ok v h1) (eb : b l h1 = .ok u h2) (ec : c l h2 = .ok x h3) (ed : d l h3 = .ok y h4) (eG : G [v, u, x, y] h4 = .ok w h5) : dCall G (dCons a (dCons b (dCons c (dCons d dNil)))) l h = .ok w h5 := by
  rw [e_call, e_cons, ea, Res.bind_ok, e_cons, eb, Res.bind_ok, e_cons, ec, Res.bind_ok, e_cons, ed, Res.bind_ok, e_nil, Res.bind_ok, Res.bind_ok, Res.bind_ok, Res.bind_ok, Res.bind_ok, eG]
theorem tp_get {g h : Hv} (tp : Tp g h) (i : Nat) : h[i + 1]? = g[i]? := by
  obtain ⟨o, _, rfl⟩ := tp
  rfl
theorem law_run (k : Nat) (ns : List Int) : ∃ h', b_law (lev D (k + 60)) (L13 (some (.fz (ns.map .int))) none none none none none none none none none none none none) [] = .rt (.bl true) h' := by
  obtain ⟨S, eS⟩ : ∃ S, some (Val.fz (ns.map .int)) = S := ⟨_, rfl⟩
  obtain ⟨h1, tp1, e1⟩ := tape_ex (k := k + 59) (ns := ns)
  obtain ⟨n, cs, h2, hn, hcs, tp2, e2⟩ := kind_ex (k := k + 58) tp1
  obtain ⟨t, h3, ht, tp3, e3⟩ := take_tp (k := k + 59) (m := 3) tp2 (by omega) (by omega)
  obtain ⟨r, h4, hr, tp4, e4⟩ := take_tp (k := k + 59) (m := 5) tp3 (by omega) (by omega)
  obtain ⟨M, h5, hM, en, ec, et, eq, tp5, e5⟩ := dm_ex (k := k + 58) (t := t) (q := r + 1) hn hcs (by omega) (by omega) (by omega) tp4
  subst en ec et
  have kl := KS_len hcs
  have hc10 : M.cs.length ≤ 10 := by omega
  have hch : ∀ c ∈ M.cs, c ≤ 122 := fun c hc => (kl.2.2.1 c hc).2
  have sm := sg_small (cs := M.cs) (t := M.t) hc10 (by omega)
  have els : lev D (k + 60) 21 [kv M.n M.cs, .int M.t] h5 = .ok (.lst ((sg M.cs M.t).map sv)) h5 := lsigns_eq (k := k + 59) hc10 (by omega)
  have esg : lev D (k + 60) 2 [kv M.n M.cs, .int M.t] h5 = .ok (.lst ((sg M.cs M.t).map sv)) h5 := signs_eq (k := k + 58) hc10 (by omega)
  have pls : Pl 3 (.lst ((sg M.cs M.t).map sv)) := ⟨by simp; omega, fun v hv => by
    obtain ⟨p, hp, rfl⟩ := List.mem_map.mp hv
    exact pl_sv p 0 (sg_two (t := M.t) (by omega) hp)⟩
  obtain ⟨qM, im⟩ := Mc.quad hM
  have eim : ∀ h, lev D (k + 60) 6 [M.val] h = .ok (.bl true) h := fun h => by
    have := im_eq (k := k + (56 - M.n)) (h := h) qM
    rw [show k + (56 - M.n) + M.n + 4 = k + 60 by have := hM.n12; omega, im] at this
    exact this
  obtain ⟨r2, h6, hr2, tp6, e6⟩ := take_tp (k := k + 59) (m := 10) tp5 (by omega) (by omega)
  obtain ⟨s, h7, hs, ss, tp7, e7⟩ := shape_ex (g := [.lst M.T]) hn (by omega) kl.2.1 r2 (k := k + (58 - r2)) tp6 (by omega)
  rw [show k + (58 - r2) + r2 + 2 = k + 60 by omega] at e7
  obtain ⟨o7, ho7, rfl⟩ := tp7
  -- the sets
  have tpS : Tp [.lst M.T, .lst (([] : Sets).map tv)] [o7, .lst M.T, .lst []] := ⟨o7, ho7, rfl⟩
  obtain ⟨l', h8, eF, w, X, hX, rfl, tp8⟩ := for_ind (t := gName 8) (b := seB (lev D (k + 60))) (it := (List.range M.t).map fun j : Nat => Val.int j) (fun j : Nat => Val.int j) (fun p l h => ∃ (w : Option Val) (X : Sets), X.length = p.length ∧ l = L13 S (some (.ref 0)) (some (kv M.n M.cs)) (some (.int M.t)) (some M.val) (some (.lst ((sg M.cs M.t).map sv))) (some s.val) (some (.ref 2)) w none none none none ∧ Tp [.lst M.T, .lst (X.map tv)] h)
    (List.range M.t) [] (L13 S (some (.ref 0)) (some (kv M.n M.cs)) (some (.int M.t)) (some M.val) (some (.lst ((sg M.cs M.t).map sv))) (some s.val) (some (.ref 2)) none none none none none) [o7, .lst M.T, .lst []] ⟨none, [], rfl, rfl, tpS⟩ (by
      rintro p j q l h0 e ⟨w, X, hX, rfl, tp⟩
      have e : List.range M.t = p ++ j :: q := e
      have hp : p.length < M.t := by
        have := congrArg List.length e
        simp at this
        omega
      obtain ⟨S1, h', tp', eb⟩ := seB_eq (k := k) (a := S) (b := some (kv M.n M.cs)) (c := some (.int M.t)) (d := some M.val) (e := some (.lst ((sg M.cs M.t).map sv))) (w := some (.int j)) (x := none) (y := none) (z := none) (u := none) hch hs (by omega) (by omega) tp
      exact ⟨L13 S (some (.ref 0)) (some (kv M.n M.cs)) (some (.int M.t)) (some M.val) (some (.lst ((sg M.cs M.t).map sv))) (some s.val) (some (.ref 2)) (some (.int j)) none none none none, h0, _, h', rfl, eb, some (.int j), X ++ [S1], by simp [hX], rfl, tp'⟩)
  rw [List.nil_append, List.length_range] at hX
  have g2 : h8[2]? = some (.lst (X.map tv)) := by rw [tp_get tp8 1]; rfl
  obtain ⟨m, em⟩ : ∃ m, mkM X s [] = m := ⟨_, rfl⟩
  have mg : m.good M.n M.S := by
    rw [← em]
    have := mkM_good (X := X) (s := s) (p := []) hs
    rw [hX] at this
    exact this
  have ms : m.size ≤ 9 := by rw [← em, mkM_size]; omega
  have elm : lev D (k + 60) 25 [s.val, .tup [], .ref 2] h8 = .ok m.val h8 := by
    have := lm_eq (h := h8) g2 hch s (k := k + (59 - s.size)) (p := []) hs (by simp; omega)
    rw [show k + (59 - s.size) + s.size + 1 = k + 60 by omega, em] at this
    exact this
  have emk : lev D (k + 60) 10 [s.val, .ref 2] h8 = .ok m.val h8 := by
    have := mark_eq (k := k + (58 - s.size)) (h := h8) g2 hch hs (by omega) (by rw [em]; exact Ms.okv hM mg)
    rw [show k + (58 - s.size) + s.size + 2 = k + 60 by omega, em] at this
    exact this
  have plm : Pl 12 m.val := pl_ms (t := M.t) (by omega) 9 ms mg
  obtain ⟨ld, rd, er⟩ := lrows_eq (k := k + 58) (n := M.n) (h := h8) hc10 (show M.t ≤ 6 by omega)
  obtain ⟨q, eq2⟩ : ∃ q, m.st M.T M.S = q := ⟨_, rfl⟩
  have erun : lev D (k + 60) 23 [M.val, m.val, .ref h8.length] (h8 ++ [.dn ld]) = .ok (.int q) (h8 ++ [.dn ld]) := by
    have := run_eq hM (i := h8.length) (h := h8 ++ [.dn ld]) rd (by simp) m (k := k + (58 - m.size)) mg
    rw [show k + (58 - m.size) + m.size + 2 = k + 60 by omega, eq2] at this
    exact this
  obtain ⟨o8, ho8, rfl⟩ := tp8
  have tp9 : Tp ([.lst M.T, .lst (X.map tv)] ++ [.dn ld]) (o8 :: [.lst M.T, .lst (X.map tv)] ++ [.dn ld]) := ⟨o8, ho8, rfl⟩
  obtain ⟨h9, eh9⟩ : ∃ h9, (o8 :: [.lst M.T, .lst (X.map tv)] ++ [.dn ld] : Hv) = h9 := ⟨_, rfl⟩
  rw [eh9] at erun tp9 er
  have est : lev D (k + 60) 8 [M.val, m.val] h9 = .ok (.int q) h9 := by
    have := state_eq hM (k := k + 56) (h := h9) mg (by omega)
    rw [eq2] at this
    exact this
  obtain ⟨b, hb, eac⟩ := accepts_eq hM (k := k + 55) (h := h9) mg (by omega)
  rw [eq2] at hb
  obtain ⟨cs', tr', T', G', h10, qO, oT, oG, tp10, esp⟩ := spoilt_ex hM (show M.t ≤ 5 by omega) (k := k + 58) tp9
  have ei1 : lev D (k + 60) 6 [Qv M.n cs' tr' T' G'] h10 = .ok (.bl (imB M.n cs' tr' T' G')) h10 := by
    have := im_eq (k := k + (56 - M.n)) (h := h10) qO
    rw [show k + (56 - M.n) + M.n + 4 = k + 60 by have := hM.n12; omega] at this
    exact this
  have ei2 : lev D (k + 60) 28 [Qv M.n cs' tr' T' G'] h10 = .ok (.bl (imB M.n cs' tr' T' G')) h10 := by
    have := limq_eq (k := k + (58 - M.n)) (h := h10) qO oT oG
    rw [show k + (58 - M.n) + M.n + 2 = k + 60 by have := hM.n12; omega] at this
    exact this
  refine ⟨h10, ?_⟩
  unfold b_law
  rw [set_eq (v := .ref 0) (h1 := h1) (call1 (v := .fz (ns.map .int)) rfl e1), eS]
  rw [set_eq (v := kv M.n M.cs) (h1 := h2) (call1 (v := .ref 0) rfl e2)]
  rw [set_eq (v := .int M.t) (h1 := h3) (callS (v := .ref 0) (u := .int 3) rfl rfl e3)]
  rw [set_eq (v := M.val) (h1 := h5) (call4 (v := .ref 0) (u := kv M.n M.cs) (x := .int M.t) (y := .int (r + 1 : Nat)) (h4 := h4) rfl rfl rfl (by
    rw [e_bin, e_c, Res.bind_ok, callS (v := .ref 0) (u := .int 5) rfl rfl e4, Res.bind_ok, vAdd_int, Int.add_comm]
    rfl) e5)]
  rw [set_eq (v := .lst ((sg M.cs M.t).map sv)) (h1 := h5) (callS (v := kv M.n M.cs) (u := .int M.t) rfl rfl els)]
  rw [no_if (c := false) (or_eq (x := false) (y := false) (not_eq (x := true) (tru_eq (callS (v := .lst ((sg M.cs M.t).map sv)) (u := .lst ((sg M.cs M.t).map sv)) (callS (v := kv M.n M.cs) (u := .int M.t) rfl rfl esg) rfl (same60 (by omega) pls)))) fun _ => not_eq (x := true) (by
    rw [e_b, e_bin, call1 (v := M.val) rfl (eim h5), Res.bind_ok, e_c, Res.bind_ok]
    rfl)), if_neg Bool.false_ne_true]
  rw [set_eq (v := s.val) (h1 := o7 :: [.lst M.T]) (call3 (v := .ref 0) (u := kv M.n M.cs) (x := .int r2) (h3 := h6) rfl rfl (callS (v := .ref 0) (u := .int 10) rfl rfl e6) e7)]
  rw [set_eq (v := .ref 2) (h1 := [o7, .lst M.T, .lst []]) (by rw [e_lstM, e_nil, Res.bind_ok, mkR_ok (by simp)]; rfl)]
  rw [for_eq (it := (List.range M.t).map fun j : Nat => Val.int j) (h1 := [o7, .lst M.T, .lst []]) (by rw [e_rng1, dv (v := .int M.t) rfl, Res.bind_ok, rng1_eq (by omega)])]
  refine (congrArg (fun z : SRes => z.andThen _) eF).trans ?_
  rw [SRes.andThen_nx]
  rw [set_eq (v := m.val) (h1 := o8 :: [.lst M.T, .lst (X.map tv)]) (call3 (v := s.val) (u := .tup []) (x := .ref 2) rfl (by rw [e_tup, e_nil, Res.bind_ok, mkT_ok (by simp)]) rfl elm)]
  rw [no_if (c := false) (not_eq (x := true) (tru_eq (callS (v := m.val) (u := m.val) (callS (v := s.val) (u := .ref 2) rfl rfl emk) rfl (same60 (by omega) plm)))), if_neg Bool.false_ne_true]
  rw [set_eq (v := .int q) (h1 := h9) (call3 (v := M.val) (u := m.val) rfl rfl (callS (v := kv M.n M.cs) (u := .int M.t) rfl rfl er) erun)]
  rw [no_if (c := false) (or_eq (x := false) (y := false) (not_eq (x := true) (tru_eq (callS (v := .int q) (u := .int q) (callS (v := M.val) (u := m.val) rfl rfl est) rfl (same60 (d := 0) (by omega) trivial)))) fun _ => not_eq (x := true) (tru_eq (callS (v := .bl b) (u := .bl b) (callS (v := M.val) (u := m.val) rfl rfl eac) (by
    rw [e_bin, e_bin, dv (v := M.val) rfl, Res.bind_ok, e_c, Res.bind_ok, show vIx M.val (.int 3) h9 = .ok (.tup (M.good.map .bl)) h9 from t3 .., Res.bind_ok, dv (v := .int q) rfl, Res.bind_ok]
    exact vIx_tup (nth_nat (by rw [List.getElem?_map, hb]; rfl))) (same60 (d := 0) (by omega) trivial)))), if_neg Bool.false_ne_true]
  rw [set_eq (v := Qv M.n cs' tr' T' G') (h1 := h10) (callS (v := .ref 0) (u := M.val) rfl rfl esp)]
  refine ret_eq ?_
  exact callS (v := .bl (imB M.n cs' tr' T' G')) (u := .bl (imB M.n cs' tr' T' G')) (call1 (v := Qv M.n cs' tr' T' G') rfl ei1) (call1 (v := Qv M.n cs' tr' T' G') rfl ei2) (same60 (d := 0) (by omega) trivial)
theorem law_true (ns : List Int) (hl : ns.length ≤ 63) : ∃ h', lev D 100 30 [.fz (ns.map .int)] [] = .ok (.bl true) h' := by
  obtain ⟨h', e⟩ := law_run 39 ns
  exact ⟨h', show runDef 13 (b_law (lev D (39 + 60))) [.fz (ns.map .int)] [] = _ from run_rt e⟩
end L07
set_option Elab.async false
set_option linter.all false
set_option maxRecDepth 100000
set_option maxHeartbeats 0
namespace L07
open PySem PySem.Spec PyProof.Rows L2 GH

def fn0 : List He.DefD := ([⟨("check_kind", none), "check_kind", "check_kind", defArgs (top 5), defBody (top 5), defScope (top 5), [], []⟩, ⟨("all_marks", none), "all_marks", "all_marks", defArgs (top 9), defBody (top 9), defScope (top 9), [], []⟩, ⟨("signs", none), "signs", "signs", defArgs (top 10), defBody (top 10), defScope (top 10), [], []⟩, ⟨("is_number", none), "is_number", "is_number", defArgs (top 11), defBody (top 11), defScope (top 11), [], []⟩, ⟨("is_row", none), "is_row", "is_row", defArgs (top 12), defBody (top 12), defScope (top 12), [], []⟩, ⟨("is_kind", none), "is_kind", "is_kind", defArgs (top 13), defBody (top 13), defScope (top 13), [], []⟩, ⟨("is_machine", none), "is_machine", "is_machine", defArgs (top 14), defBody (top 14), defScope (top 14), [], []⟩, ⟨("state_above", none), "state_above", "state_above", defArgs (top 15), defBody (top 15), defScope (top 15), [], []⟩, ⟨("state_of", none), "state_of", "state_of", defArgs (top 16), defBody (top 16), defScope (top 16), [], []⟩, ⟨("accepts", none), "accepts", "accepts", defArgs (top 17), defBody (top 17), defScope (top 17), [], []⟩, ⟨("mark", none), "mark", "mark", defArgs (top 18), defBody (top 18), defScope (top 18), [], []⟩, ⟨("mark_part", none), "mark_part", "mark_part", defArgs (top 19), defBody (top 19), defScope (top 19), [], []⟩, ⟨("rows_by_sign", none), "rows_by_sign", "rows_by_sign", defArgs (top 20), defBody (top 20), defScope (top 20), [], []⟩, ⟨("_law_tape", none), "_law_tape", "_law_tape", defArgs (top 22), defBody (top 22), defScope (top 22), [], []⟩, ⟨("_law_take", none), "_law_take", "_law_take", defArgs (top 23), defBody (top 23), defScope (top 23), [], []⟩, ⟨("_law_is_integer", none), "_law_is_integer", "_law_is_integer", defArgs (top 24), defBody (top 24), defScope (top 24), [], []⟩, ⟨("_law_same_items", none), "_law_same_items", "_law_same_items", defArgs (top 25), defBody (top 25), defScope (top 25), [], []⟩, ⟨("_law_same", none), "_law_same", "_law_same", defArgs (top 26), defBody (top 26), defScope (top 26), [], []⟩, ⟨("_law_kind", none), "_law_kind", "_law_kind", defArgs (top 27), defBody (top 27), defScope (top 27), [], []⟩, ⟨("_law_shape", none), "_law_shape", "_law_shape", defArgs (top 28), defBody (top 28), defScope (top 28), [], []⟩, ⟨("_law_paths", none), "_law_paths", "_law_paths", defArgs (top 29), defBody (top 29), defScope (top 29), [], []⟩, ⟨("_law_signs", none), "_law_signs", "_law_signs", defArgs (top 30), defBody (top 30), defScope (top 30), [], []⟩, ⟨("_law_above", none), "_law_above", "_law_above", defArgs (top 31), defBody (top 31), defScope (top 31), [], []⟩, ⟨("_law_run", none), "_law_run", "_law_run", defArgs (top 32), defBody (top 32), defScope (top 32), [], []⟩, ⟨("_law_rows", none), "_law_rows", "_law_rows", defArgs (top 33), defBody (top 33), defScope (top 33), [], []⟩, ⟨("_law_marked", none), "_law_marked", "_law_marked", defArgs (top 34), defBody (top 34), defScope (top 34), [], []⟩, ⟨("_law_draw_machine", none), "_law_draw_machine", "_law_draw_machine", defArgs (top 35), defBody (top 35), defScope (top 35), [], []⟩, ⟨("_law_is_row", none), "_law_is_row", "_law_is_row", defArgs (top 36), defBody (top 36), defScope (top 36), [], []⟩, ⟨("_law_is_machine", none), "_law_is_machine", "_law_is_machine", defArgs (top 37), defBody (top 37), defScope (top 37), [], []⟩, ⟨("_law_spoilt", none), "_law_spoilt", "_law_spoilt", defArgs (top 38), defBody (top 38), defScope (top 38), [], []⟩])
def fn1 : List He.DefD := ([⟨("law", none), "law", "law", defArgs (top 39), defBody (top 39), defScope (top 39), [], []⟩])
def fn : List He.DefD := fn0 ++ fn1
def fa0 : List He.Fa := ([.glo "check_kind", .glo "all_marks", .glo "signs", .glo "is_number", .glo "is_row", .glo "is_kind", .glo "is_machine", .glo "state_above", .glo "state_of", .glo "accepts", .glo "mark", .glo "mark_part", .glo "rows_by_sign", .glo "_law_tape", .glo "_law_take", .glo "_law_is_integer", .glo "_law_same_items", .glo "_law_same", .glo "_law_kind", .glo "_law_shape", .glo "_law_paths", .glo "_law_signs", .glo "_law_above", .glo "_law_run", .glo "_law_rows", .glo "_law_marked", .glo "_law_draw_machine", .glo "_law_is_row", .glo "_law_is_machine", .glo "_law_spoilt"])
def fa1 : List He.Fa := ([.glo "law", .free "abs", .free "all", .free "bool", .free "dict", .free "enumerate", .free "int", .free "isinstance", .free "len", .free "list", .free "range", .free "set", .free "sorted", .free "str", .free "tuple", .int "MOST_STATES" 300, .int "MOST_TRACKS" 6, .str "LETTERS" (sOf [97, 98, 99, 100, 101, 102, 103, 104, 105, 106, 107, 108, 109, 110, 111, 112, 113, 114, 115, 116, 117, 118, 119, 120, 121, 122]), .exc (sOf [83, 97, 121, 69, 114, 114, 111, 114]), .glo (sOf [83, 97, 121, 69, 114, 114, 111, 114]), .exc (sOf [73, 110, 118, 97, 108, 105, 100, 75, 105, 110, 100]), .glo (sOf [73, 110, 118, 97, 108, 105, 100, 75, 105, 110, 100]), .exm (sOf [83, 97, 121, 69, 114, 114, 111, 114]) (sOf [73, 110, 118, 97, 108, 105, 100, 75, 105, 110, 100]) false, .exm (sOf [73, 110, 118, 97, 108, 105, 100, 75, 105, 110, 100]) (sOf [73, 110, 118, 97, 108, 105, 100, 75, 105, 110, 100]) true])
def fa : List He.Fa := fa0 ++ fa1
def nm0 : List PySem.Str := ([("SayError" : PySem.Str), ("InvalidKind" : PySem.Str), ("LETTERS" : PySem.Str), ("check_kind" : PySem.Str), ("MOST_STATES" : PySem.Str), ("MOST_TRACKS" : PySem.Str), ("all_marks" : PySem.Str), ("signs" : PySem.Str), ("is_number" : PySem.Str), ("is_row" : PySem.Str), ("is_kind" : PySem.Str), ("is_machine" : PySem.Str), ("state_above" : PySem.Str), ("state_of" : PySem.Str), ("accepts" : PySem.Str), ("mark" : PySem.Str), ("mark_part" : PySem.Str), ("rows_by_sign" : PySem.Str), ("_law_tape" : PySem.Str), ("_law_take" : PySem.Str), ("_law_is_integer" : PySem.Str), ("_law_same_items" : PySem.Str), ("_law_same" : PySem.Str), ("_law_kind" : PySem.Str), ("_law_shape" : PySem.Str), ("_law_paths" : PySem.Str), ("_law_signs" : PySem.Str), ("_law_above" : PySem.Str), ("_law_run" : PySem.Str), ("_law_rows" : PySem.Str)])
def nm1 : List PySem.Str := ([("_law_marked" : PySem.Str), ("_law_draw_machine" : PySem.Str), ("_law_is_row" : PySem.Str), ("_law_is_machine" : PySem.Str), ("_law_spoilt" : PySem.Str)])
def nm : List PySem.Str := nm0 ++ nm1
abbrev R : PySem.W.OpenRow := PySem.W.OpenLaw.row PySem.Challenge.rw_grovehouse_k07_runs_of_machines
abbrev hk : PySem.W.Hook := He.hookD 4 fa fn
def ob (s : PySem.W.SharedT) : He.AlD := He.obsDG 4 fa fn (HandSHeadRun.getT s)
theorem ob_eq (s : PySem.W.SharedT) : ob s = hk.obs s.abs := He.obsDG_eq (HandSHeadRun.getT_eq s)
theorem run (w : World) : HandSHeadRun.RunEq R (PySem.W.view R.prog [39]) hk ob 3000 nm w := by
  intro os
  kernel_rfl
theorem u_check_kind {K : PySem.W.Frag} (c : He.SaysD fa fn K) : ∃ fd, FnP K "check_kind" 5 fd ∧ Binds K fd ["kind"] [] := by
  obtain ⟨fd, F⟩ := c.def_ 0 (d := ⟨("check_kind", none), "check_kind", "check_kind", defArgs (top 5), defBody (top 5), defScope (top 5), [], []⟩) rfl
  exact ⟨fd, F, FunD.bindsN (ps := ["kind"]) F fun _ _ _ _ _ _ us hl => match us, hl with | [_], _ => rfl⟩
theorem u_all_marks {K : PySem.W.Frag} (c : He.SaysD fa fn K) : ∃ fd, FnP K "all_marks" 9 fd ∧ Binds K fd ["tracks"] [] := by
  obtain ⟨fd, F⟩ := c.def_ 1 (d := ⟨("all_marks", none), "all_marks", "all_marks", defArgs (top 9), defBody (top 9), defScope (top 9), [], []⟩) rfl
  exact ⟨fd, F, FunD.bindsN (ps := ["tracks"]) F fun _ _ _ _ _ _ us hl => match us, hl with | [_], _ => rfl⟩
theorem u_signs {K : PySem.W.Frag} (c : He.SaysD fa fn K) : ∃ fd, FnP K "signs" 10 fd ∧ Binds K fd ["kind", "tracks"] [] := by
  obtain ⟨fd, F⟩ := c.def_ 2 (d := ⟨("signs", none), "signs", "signs", defArgs (top 10), defBody (top 10), defScope (top 10), [], []⟩) rfl
  exact ⟨fd, F, FunD.bindsN (ps := ["kind", "tracks"]) F fun _ _ _ _ _ _ us hl => match us, hl with | [_, _], _ => rfl⟩
theorem u_is_number {K : PySem.W.Frag} (c : He.SaysD fa fn K) : ∃ fd, FnP K "is_number" 11 fd ∧ Binds K fd ["value", "count"] [] := by
  obtain ⟨fd, F⟩ := c.def_ 3 (d := ⟨("is_number", none), "is_number", "is_number", defArgs (top 11), defBody (top 11), defScope (top 11), [], []⟩) rfl
  exact ⟨fd, F, FunD.bindsN (ps := ["value", "count"]) F fun _ _ _ _ _ _ us hl => match us, hl with | [_, _], _ => rfl⟩
theorem u_is_row {K : PySem.W.Frag} (c : He.SaysD fa fn K) : ∃ fd, FnP K "is_row" 12 fd ∧ Binds K fd ["value", "count", "levels"] [] := by
  obtain ⟨fd, F⟩ := c.def_ 4 (d := ⟨("is_row", none), "is_row", "is_row", defArgs (top 12), defBody (top 12), defScope (top 12), [], []⟩) rfl
  exact ⟨fd, F, FunD.bindsN (ps := ["value", "count", "levels"]) F fun _ _ _ _ _ _ us hl => match us, hl with | [_, _, _], _ => rfl⟩
theorem u_is_kind {K : PySem.W.Frag} (c : He.SaysD fa fn K) : ∃ fd, FnP K "is_kind" 13 fd ∧ Binds K fd ["value"] [] := by
  obtain ⟨fd, F⟩ := c.def_ 5 (d := ⟨("is_kind", none), "is_kind", "is_kind", defArgs (top 13), defBody (top 13), defScope (top 13), [], []⟩) rfl
  exact ⟨fd, F, FunD.bindsN (ps := ["value"]) F fun _ _ _ _ _ _ us hl => match us, hl with | [_], _ => rfl⟩
theorem u_is_machine {K : PySem.W.Frag} (c : He.SaysD fa fn K) : ∃ fd, FnP K "is_machine" 14 fd ∧ Binds K fd ["value"] [] := by
  obtain ⟨fd, F⟩ := c.def_ 6 (d := ⟨("is_machine", none), "is_machine", "is_machine", defArgs (top 14), defBody (top 14), defScope (top 14), [], []⟩) rfl
  exact ⟨fd, F, FunD.bindsN (ps := ["value"]) F fun _ _ _ _ _ _ us hl => match us, hl with | [_], _ => rfl⟩
theorem u_state_above {K : PySem.W.Frag} (c : He.SaysD fa fn K) : ∃ fd, FnP K "state_above" 15 fd ∧ Binds K fd ["machine", "row", "children"] [] := by
  obtain ⟨fd, F⟩ := c.def_ 7 (d := ⟨("state_above", none), "state_above", "state_above", defArgs (top 15), defBody (top 15), defScope (top 15), [], []⟩) rfl
  exact ⟨fd, F, FunD.bindsN (ps := ["machine", "row", "children"]) F fun _ _ _ _ _ _ us hl => match us, hl with | [_, _, _], _ => rfl⟩
theorem u_state_of {K : PySem.W.Frag} (c : He.SaysD fa fn K) : ∃ fd, FnP K "state_of" 16 fd ∧ Binds K fd ["machine", "marked"] [] := by
  obtain ⟨fd, F⟩ := c.def_ 8 (d := ⟨("state_of", none), "state_of", "state_of", defArgs (top 16), defBody (top 16), defScope (top 16), [], []⟩) rfl
  exact ⟨fd, F, FunD.bindsN (ps := ["machine", "marked"]) F fun _ _ _ _ _ _ us hl => match us, hl with | [_, _], _ => rfl⟩
theorem u_accepts {K : PySem.W.Frag} (c : He.SaysD fa fn K) : ∃ fd, FnP K "accepts" 17 fd ∧ Binds K fd ["machine", "marked"] [] := by
  obtain ⟨fd, F⟩ := c.def_ 9 (d := ⟨("accepts", none), "accepts", "accepts", defArgs (top 17), defBody (top 17), defScope (top 17), [], []⟩) rfl
  exact ⟨fd, F, FunD.bindsN (ps := ["machine", "marked"]) F fun _ _ _ _ _ _ us hl => match us, hl with | [_, _], _ => rfl⟩
theorem u_mark {K : PySem.W.Frag} (c : He.SaysD fa fn K) : ∃ fd, FnP K "mark" 18 fd ∧ Binds K fd ["shape", "sets"] [] := by
  obtain ⟨fd, F⟩ := c.def_ 10 (d := ⟨("mark", none), "mark", "mark", defArgs (top 18), defBody (top 18), defScope (top 18), [], []⟩) rfl
  exact ⟨fd, F, FunD.bindsN (ps := ["shape", "sets"]) F fun _ _ _ _ _ _ us hl => match us, hl with | [_, _], _ => rfl⟩
theorem u_mark_part {K : PySem.W.Frag} (c : He.SaysD fa fn K) : ∃ fd, FnP K "mark_part" 19 fd ∧ Binds K fd ["shape", "path", "inside"] [] := by
  obtain ⟨fd, F⟩ := c.def_ 11 (d := ⟨("mark_part", none), "mark_part", "mark_part", defArgs (top 19), defBody (top 19), defScope (top 19), [], []⟩) rfl
  exact ⟨fd, F, FunD.bindsN (ps := ["shape", "path", "inside"]) F fun _ _ _ _ _ _ us hl => match us, hl with | [_, _, _], _ => rfl⟩
theorem u_rows_by_sign {K : PySem.W.Frag} (c : He.SaysD fa fn K) : ∃ fd, FnP K "rows_by_sign" 20 fd ∧ Binds K fd ["kind", "tracks"] [] := by
  obtain ⟨fd, F⟩ := c.def_ 12 (d := ⟨("rows_by_sign", none), "rows_by_sign", "rows_by_sign", defArgs (top 20), defBody (top 20), defScope (top 20), [], []⟩) rfl
  exact ⟨fd, F, FunD.bindsN (ps := ["kind", "tracks"]) F fun _ _ _ _ _ _ us hl => match us, hl with | [_, _], _ => rfl⟩
theorem u__law_tape {K : PySem.W.Frag} (c : He.SaysD fa fn K) : ∃ fd, FnP K "_law_tape" 22 fd ∧ Binds K fd ["script"] [] := by
  obtain ⟨fd, F⟩ := c.def_ 13 (d := ⟨("_law_tape", none), "_law_tape", "_law_tape", defArgs (top 22), defBody (top 22), defScope (top 22), [], []⟩) rfl
  exact ⟨fd, F, FunD.bindsN (ps := ["script"]) F fun _ _ _ _ _ _ us hl => match us, hl with | [_], _ => rfl⟩
theorem u__law_take {K : PySem.W.Frag} (c : He.SaysD fa fn K) : ∃ fd, FnP K "_law_take" 23 fd ∧ Binds K fd ["tape", "many"] [] := by
  obtain ⟨fd, F⟩ := c.def_ 14 (d := ⟨("_law_take", none), "_law_take", "_law_take", defArgs (top 23), defBody (top 23), defScope (top 23), [], []⟩) rfl
  exact ⟨fd, F, FunD.bindsN (ps := ["tape", "many"]) F fun _ _ _ _ _ _ us hl => match us, hl with | [_, _], _ => rfl⟩
theorem u__law_is_integer {K : PySem.W.Frag} (c : He.SaysD fa fn K) : ∃ fd, FnP K "_law_is_integer" 24 fd ∧ Binds K fd ["actual"] [] := by
  obtain ⟨fd, F⟩ := c.def_ 15 (d := ⟨("_law_is_integer", none), "_law_is_integer", "_law_is_integer", defArgs (top 24), defBody (top 24), defScope (top 24), [], []⟩) rfl
  exact ⟨fd, F, FunD.bindsN (ps := ["actual"]) F fun _ _ _ _ _ _ us hl => match us, hl with | [_], _ => rfl⟩
theorem u__law_same_items {K : PySem.W.Frag} (c : He.SaysD fa fn K) : ∃ fd, FnP K "_law_same_items" 25 fd ∧ Binds K fd ["actual", "expected"] [] := by
  obtain ⟨fd, F⟩ := c.def_ 16 (d := ⟨("_law_same_items", none), "_law_same_items", "_law_same_items", defArgs (top 25), defBody (top 25), defScope (top 25), [], []⟩) rfl
  exact ⟨fd, F, FunD.bindsN (ps := ["actual", "expected"]) F fun _ _ _ _ _ _ us hl => match us, hl with | [_, _], _ => rfl⟩
theorem u__law_same {K : PySem.W.Frag} (c : He.SaysD fa fn K) : ∃ fd, FnP K "_law_same" 26 fd ∧ Binds K fd ["actual", "expected"] [] := by
  obtain ⟨fd, F⟩ := c.def_ 17 (d := ⟨("_law_same", none), "_law_same", "_law_same", defArgs (top 26), defBody (top 26), defScope (top 26), [], []⟩) rfl
  exact ⟨fd, F, FunD.bindsN (ps := ["actual", "expected"]) F fun _ _ _ _ _ _ us hl => match us, hl with | [_, _], _ => rfl⟩
theorem u__law_kind {K : PySem.W.Frag} (c : He.SaysD fa fn K) : ∃ fd, FnP K "_law_kind" 27 fd ∧ Binds K fd ["tape"] [] := by
  obtain ⟨fd, F⟩ := c.def_ 18 (d := ⟨("_law_kind", none), "_law_kind", "_law_kind", defArgs (top 27), defBody (top 27), defScope (top 27), [], []⟩) rfl
  exact ⟨fd, F, FunD.bindsN (ps := ["tape"]) F fun _ _ _ _ _ _ us hl => match us, hl with | [_], _ => rfl⟩
theorem u__law_shape {K : PySem.W.Frag} (c : He.SaysD fa fn K) : ∃ fd, FnP K "_law_shape" 28 fd ∧ Binds K fd ["tape", "kind", "count"] [] := by
  obtain ⟨fd, F⟩ := c.def_ 19 (d := ⟨("_law_shape", none), "_law_shape", "_law_shape", defArgs (top 28), defBody (top 28), defScope (top 28), [], []⟩) rfl
  exact ⟨fd, F, FunD.bindsN (ps := ["tape", "kind", "count"]) F fun _ _ _ _ _ _ us hl => match us, hl with | [_, _, _], _ => rfl⟩
theorem u__law_paths {K : PySem.W.Frag} (c : He.SaysD fa fn K) : ∃ fd, FnP K "_law_paths" 29 fd ∧ Binds K fd ["shape", "path"] [] := by
  obtain ⟨fd, F⟩ := c.def_ 20 (d := ⟨("_law_paths", none), "_law_paths", "_law_paths", defArgs (top 29), defBody (top 29), defScope (top 29), [], []⟩) rfl
  exact ⟨fd, F, FunD.bindsN (ps := ["shape", "path"]) F fun _ _ _ _ _ _ us hl => match us, hl with | [_, _], _ => rfl⟩
theorem u__law_signs {K : PySem.W.Frag} (c : He.SaysD fa fn K) : ∃ fd, FnP K "_law_signs" 30 fd ∧ Binds K fd ["kind", "tracks"] [] := by
  obtain ⟨fd, F⟩ := c.def_ 21 (d := ⟨("_law_signs", none), "_law_signs", "_law_signs", defArgs (top 30), defBody (top 30), defScope (top 30), [], []⟩) rfl
  exact ⟨fd, F, FunD.bindsN (ps := ["kind", "tracks"]) F fun _ _ _ _ _ _ us hl => match us, hl with | [_, _], _ => rfl⟩
theorem u__law_above {K : PySem.W.Frag} (c : He.SaysD fa fn K) : ∃ fd, FnP K "_law_above" 31 fd ∧ Binds K fd ["machine", "row", "children"] [] := by
  obtain ⟨fd, F⟩ := c.def_ 22 (d := ⟨("_law_above", none), "_law_above", "_law_above", defArgs (top 31), defBody (top 31), defScope (top 31), [], []⟩) rfl
  exact ⟨fd, F, FunD.bindsN (ps := ["machine", "row", "children"]) F fun _ _ _ _ _ _ us hl => match us, hl with | [_, _, _], _ => rfl⟩
theorem u__law_run {K : PySem.W.Frag} (c : He.SaysD fa fn K) : ∃ fd, FnP K "_law_run" 32 fd ∧ Binds K fd ["machine", "marked", "rows"] [] := by
  obtain ⟨fd, F⟩ := c.def_ 23 (d := ⟨("_law_run", none), "_law_run", "_law_run", defArgs (top 32), defBody (top 32), defScope (top 32), [], []⟩) rfl
  exact ⟨fd, F, FunD.bindsN (ps := ["machine", "marked", "rows"]) F fun _ _ _ _ _ _ us hl => match us, hl with | [_, _, _], _ => rfl⟩
theorem u__law_rows {K : PySem.W.Frag} (c : He.SaysD fa fn K) : ∃ fd, FnP K "_law_rows" 33 fd ∧ Binds K fd ["kind", "tracks"] [] := by
  obtain ⟨fd, F⟩ := c.def_ 24 (d := ⟨("_law_rows", none), "_law_rows", "_law_rows", defArgs (top 33), defBody (top 33), defScope (top 33), [], []⟩) rfl
  exact ⟨fd, F, FunD.bindsN (ps := ["kind", "tracks"]) F fun _ _ _ _ _ _ us hl => match us, hl with | [_, _], _ => rfl⟩
theorem u__law_marked {K : PySem.W.Frag} (c : He.SaysD fa fn K) : ∃ fd, FnP K "_law_marked" 34 fd ∧ Binds K fd ["shape", "path", "sets"] [] := by
  obtain ⟨fd, F⟩ := c.def_ 25 (d := ⟨("_law_marked", none), "_law_marked", "_law_marked", defArgs (top 34), defBody (top 34), defScope (top 34), [], []⟩) rfl
  exact ⟨fd, F, FunD.bindsN (ps := ["shape", "path", "sets"]) F fun _ _ _ _ _ _ us hl => match us, hl with | [_, _, _], _ => rfl⟩
theorem u__law_draw_machine {K : PySem.W.Frag} (c : He.SaysD fa fn K) : ∃ fd, FnP K "_law_draw_machine" 35 fd ∧ Binds K fd ["tape", "kind", "tracks", "many"] [] := by
  obtain ⟨fd, F⟩ := c.def_ 26 (d := ⟨("_law_draw_machine", none), "_law_draw_machine", "_law_draw_machine", defArgs (top 35), defBody (top 35), defScope (top 35), [], []⟩) rfl
  exact ⟨fd, F, FunD.bindsN (ps := ["tape", "kind", "tracks", "many"]) F fun _ _ _ _ _ _ us hl => match us, hl with | [_, _, _, _], _ => rfl⟩
theorem u__law_is_row {K : PySem.W.Frag} (c : He.SaysD fa fn K) : ∃ fd, FnP K "_law_is_row" 36 fd ∧ Binds K fd ["value", "many", "levels"] [] := by
  obtain ⟨fd, F⟩ := c.def_ 27 (d := ⟨("_law_is_row", none), "_law_is_row", "_law_is_row", defArgs (top 36), defBody (top 36), defScope (top 36), [], []⟩) rfl
  exact ⟨fd, F, FunD.bindsN (ps := ["value", "many", "levels"]) F fun _ _ _ _ _ _ us hl => match us, hl with | [_, _, _], _ => rfl⟩
theorem u__law_is_machine {K : PySem.W.Frag} (c : He.SaysD fa fn K) : ∃ fd, FnP K "_law_is_machine" 37 fd ∧ Binds K fd ["value"] [] := by
  obtain ⟨fd, F⟩ := c.def_ 28 (d := ⟨("_law_is_machine", none), "_law_is_machine", "_law_is_machine", defArgs (top 37), defBody (top 37), defScope (top 37), [], []⟩) rfl
  exact ⟨fd, F, FunD.bindsN (ps := ["value"]) F fun _ _ _ _ _ _ us hl => match us, hl with | [_], _ => rfl⟩
theorem u__law_spoilt {K : PySem.W.Frag} (c : He.SaysD fa fn K) : ∃ fd, FnP K "_law_spoilt" 38 fd ∧ Binds K fd ["tape", "machine"] [] := by
  obtain ⟨fd, F⟩ := c.def_ 29 (d := ⟨("_law_spoilt", none), "_law_spoilt", "_law_spoilt", defArgs (top 38), defBody (top 38), defScope (top 38), [], []⟩) rfl
  exact ⟨fd, F, FunD.bindsN (ps := ["tape", "machine"]) F fun _ _ _ _ _ _ us hl => match us, hl with | [_, _], _ => rfl⟩
theorem u_law {K : PySem.W.Frag} (c : He.SaysD fa fn K) : ∃ fd, FnP K "law" 39 fd ∧ Binds K fd ["script"] [] := by
  obtain ⟨fd, F⟩ := c.def_ 30 (d := ⟨("law", none), "law", "law", defArgs (top 39), defBody (top 39), defScope (top 39), [], []⟩) rfl
  exact ⟨fd, F, FunD.bindsN (ps := ["script"]) F fun _ _ _ _ _ _ us hl => match us, hl with | [_], _ => rfl⟩
variable [TheWorld]
theorem fc_of {K : PySem.W.Frag} {mg : Str → Option Value} {base : Heap} (X : K.In base) (G : base.Ns mainGlobals mg) (c : He.SaysD fa fn K) : Fc K mg := ⟨He.free_ok X G (c.fact 31 (f := .free "abs") rfl),
  He.free_ok X G (c.fact 32 (f := .free "all") rfl),
  He.free_ok X G (c.fact 33 (f := .free "bool") rfl),
  He.free_ok X G (c.fact 34 (f := .free "dict") rfl),
  He.free_ok X G (c.fact 35 (f := .free "enumerate") rfl),
  He.free_ok X G (c.fact 36 (f := .free "int") rfl),
  He.free_ok X G (c.fact 37 (f := .free "isinstance") rfl),
  He.free_ok X G (c.fact 38 (f := .free "len") rfl),
  He.free_ok X G (c.fact 39 (f := .free "list") rfl),
  He.free_ok X G (c.fact 40 (f := .free "range") rfl),
  He.free_ok X G (c.fact 41 (f := .free "set") rfl),
  He.free_ok X G (c.fact 42 (f := .free "sorted") rfl),
  He.free_ok X G (c.fact 43 (f := .free "str") rfl),
  He.free_ok X G (c.fact 44 (f := .free "tuple") rfl),
  He.int_ok X G (c.fact 45 (f := .int "MOST_STATES" 300) rfl),
  He.int_ok X G (c.fact 46 (f := .int "MOST_TRACKS" 6) rfl),
  He.str_ok X G (c.fact 47 (f := .str "LETTERS" (sOf [97, 98, 99, 100, 101, 102, 103, 104, 105, 106, 107, 108, 109, 110, 111, 112, 113, 114, 115, 116, 117, 118, 119, 120, 121, 122])) rfl),
  ⟨(He.exc_ok (c.fact 48 (f := .exc (sOf [83, 97, 121, 69, 114, 114, 111, 114])) rfl)).1, (He.exc_ok (c.fact 48 (f := .exc (sOf [83, 97, 121, 69, 114, 114, 111, 114])) rfl)).2.1, (He.exc_ok (c.fact 48 (f := .exc (sOf [83, 97, 121, 69, 114, 114, 111, 114])) rfl)).2.2.1, (He.exc_ok (c.fact 48 (f := .exc (sOf [83, 97, 121, 69, 114, 114, 111, 114])) rfl)).2.2.2, He.glo_ok X G (c.fact 49 (f := .glo (sOf [83, 97, 121, 69, 114, 114, 111, 114])) rfl)⟩,
  ⟨(He.exc_ok (c.fact 50 (f := .exc (sOf [73, 110, 118, 97, 108, 105, 100, 75, 105, 110, 100])) rfl)).1, (He.exc_ok (c.fact 50 (f := .exc (sOf [73, 110, 118, 97, 108, 105, 100, 75, 105, 110, 100])) rfl)).2.1, (He.exc_ok (c.fact 50 (f := .exc (sOf [73, 110, 118, 97, 108, 105, 100, 75, 105, 110, 100])) rfl)).2.2.1, (He.exc_ok (c.fact 50 (f := .exc (sOf [73, 110, 118, 97, 108, 105, 100, 75, 105, 110, 100])) rfl)).2.2.2, He.glo_ok X G (c.fact 51 (f := .glo (sOf [73, 110, 118, 97, 108, 105, 100, 75, 105, 110, 100])) rfl)⟩,
  (by intro p hp; simp only [List.mem_cons, List.not_mem_nil, or_false] at hp; rcases hp with rfl | rfl; exact He.exm_ok (c.fact 52 (f := .exm (sOf [83, 97, 121, 69, 114, 114, 111, 114]) (sOf [73, 110, 118, 97, 108, 105, 100, 75, 105, 110, 100]) false) rfl); exact He.exm_ok (c.fact 53 (f := .exm (sOf [73, 110, 118, 97, 108, 105, 100, 75, 105, 110, 100]) (sOf [73, 110, 118, 97, 108, 105, 100, 75, 105, 110, 100]) true) rfl))⟩
theorem all_of {P : Program} {w : World} {K : PySem.W.Frag} {mg : Str → Option Value} {base hh : Heap} (X : K.In hh) (G : hh.Ns mainGlobals mg) (c : He.SaysD fa fn K) (hwW : w = TheWorld.w) : ∀ k, AllK P w K mg base sig k (lev D k) := by
  have fc := fc_of X G c
  obtain ⟨fd0, u0, b0⟩ := u_check_kind c
  have g0 := He.glo_ok X G (c.fact 0 (f := .glo "check_kind") rfl)
  obtain ⟨fd1, u1, b1⟩ := u_all_marks c
  have g1 := He.glo_ok X G (c.fact 1 (f := .glo "all_marks") rfl)
  obtain ⟨fd2, u2, b2⟩ := u_signs c
  have g2 := He.glo_ok X G (c.fact 2 (f := .glo "signs") rfl)
  obtain ⟨fd3, u3, b3⟩ := u_is_number c
  have g3 := He.glo_ok X G (c.fact 3 (f := .glo "is_number") rfl)
  obtain ⟨fd4, u4, b4⟩ := u_is_row c
  have g4 := He.glo_ok X G (c.fact 4 (f := .glo "is_row") rfl)
  obtain ⟨fd5, u5, b5⟩ := u_is_kind c
  have g5 := He.glo_ok X G (c.fact 5 (f := .glo "is_kind") rfl)
  obtain ⟨fd6, u6, b6⟩ := u_is_machine c
  have g6 := He.glo_ok X G (c.fact 6 (f := .glo "is_machine") rfl)
  obtain ⟨fd7, u7, b7⟩ := u_state_above c
  have g7 := He.glo_ok X G (c.fact 7 (f := .glo "state_above") rfl)
  obtain ⟨fd8, u8, b8⟩ := u_state_of c
  have g8 := He.glo_ok X G (c.fact 8 (f := .glo "state_of") rfl)
  obtain ⟨fd9, u9, b9⟩ := u_accepts c
  have g9 := He.glo_ok X G (c.fact 9 (f := .glo "accepts") rfl)
  obtain ⟨fd10, u10, b10⟩ := u_mark c
  have g10 := He.glo_ok X G (c.fact 10 (f := .glo "mark") rfl)
  obtain ⟨fd11, u11, b11⟩ := u_mark_part c
  have g11 := He.glo_ok X G (c.fact 11 (f := .glo "mark_part") rfl)
  obtain ⟨fd12, u12, b12⟩ := u_rows_by_sign c
  have g12 := He.glo_ok X G (c.fact 12 (f := .glo "rows_by_sign") rfl)
  obtain ⟨fd13, u13, b13⟩ := u__law_tape c
  have g13 := He.glo_ok X G (c.fact 13 (f := .glo "_law_tape") rfl)
  obtain ⟨fd14, u14, b14⟩ := u__law_take c
  have g14 := He.glo_ok X G (c.fact 14 (f := .glo "_law_take") rfl)
  obtain ⟨fd15, u15, b15⟩ := u__law_is_integer c
  have g15 := He.glo_ok X G (c.fact 15 (f := .glo "_law_is_integer") rfl)
  obtain ⟨fd16, u16, b16⟩ := u__law_same_items c
  have g16 := He.glo_ok X G (c.fact 16 (f := .glo "_law_same_items") rfl)
  obtain ⟨fd17, u17, b17⟩ := u__law_same c
  have g17 := He.glo_ok X G (c.fact 17 (f := .glo "_law_same") rfl)
  obtain ⟨fd18, u18, b18⟩ := u__law_kind c
  have g18 := He.glo_ok X G (c.fact 18 (f := .glo "_law_kind") rfl)
  obtain ⟨fd19, u19, b19⟩ := u__law_shape c
  have g19 := He.glo_ok X G (c.fact 19 (f := .glo "_law_shape") rfl)
  obtain ⟨fd20, u20, b20⟩ := u__law_paths c
  have g20 := He.glo_ok X G (c.fact 20 (f := .glo "_law_paths") rfl)
  obtain ⟨fd21, u21, b21⟩ := u__law_signs c
  have g21 := He.glo_ok X G (c.fact 21 (f := .glo "_law_signs") rfl)
  obtain ⟨fd22, u22, b22⟩ := u__law_above c
  have g22 := He.glo_ok X G (c.fact 22 (f := .glo "_law_above") rfl)
  obtain ⟨fd23, u23, b23⟩ := u__law_run c
  have g23 := He.glo_ok X G (c.fact 23 (f := .glo "_law_run") rfl)
  obtain ⟨fd24, u24, b24⟩ := u__law_rows c
  have g24 := He.glo_ok X G (c.fact 24 (f := .glo "_law_rows") rfl)
  obtain ⟨fd25, u25, b25⟩ := u__law_marked c
  have g25 := He.glo_ok X G (c.fact 25 (f := .glo "_law_marked") rfl)
  obtain ⟨fd26, u26, b26⟩ := u__law_draw_machine c
  have g26 := He.glo_ok X G (c.fact 26 (f := .glo "_law_draw_machine") rfl)
  obtain ⟨fd27, u27, b27⟩ := u__law_is_row c
  have g27 := He.glo_ok X G (c.fact 27 (f := .glo "_law_is_row") rfl)
  obtain ⟨fd28, u28, b28⟩ := u__law_is_machine c
  have g28 := He.glo_ok X G (c.fact 28 (f := .glo "_law_is_machine") rfl)
  obtain ⟨fd29, u29, b29⟩ := u__law_spoilt c
  have g29 := He.glo_ok X G (c.fact 29 (f := .glo "_law_spoilt") rfl)
  obtain ⟨fd30, u30, b30⟩ := u_law c
  have g30 := He.glo_ok X G (c.fact 30 (f := .glo "law") rfl)
  refine levels ?_ ?_
  · intro j x ps e
    match j, e with
    | 0, e => exact (by have e : some (("check_kind" : Str), (["kind"] : List Str)) = some (x, ps) := e; cases e; exact ⟨g0, u0.kp, fd0, b0⟩)
    | 1, e => exact (by have e : some (("all_marks" : Str), (["tracks"] : List Str)) = some (x, ps) := e; cases e; exact ⟨g1, u1.kp, fd1, b1⟩)
    | 2, e => exact (by have e : some (("signs" : Str), (["kind", "tracks"] : List Str)) = some (x, ps) := e; cases e; exact ⟨g2, u2.kp, fd2, b2⟩)
    | 3, e => exact (by have e : some (("is_number" : Str), (["value", "count"] : List Str)) = some (x, ps) := e; cases e; exact ⟨g3, u3.kp, fd3, b3⟩)
    | 4, e => exact (by have e : some (("is_row" : Str), (["value", "count", "levels"] : List Str)) = some (x, ps) := e; cases e; exact ⟨g4, u4.kp, fd4, b4⟩)
    | 5, e => exact (by have e : some (("is_kind" : Str), (["value"] : List Str)) = some (x, ps) := e; cases e; exact ⟨g5, u5.kp, fd5, b5⟩)
    | 6, e => exact (by have e : some (("is_machine" : Str), (["value"] : List Str)) = some (x, ps) := e; cases e; exact ⟨g6, u6.kp, fd6, b6⟩)
    | 7, e => exact (by have e : some (("state_above" : Str), (["machine", "row", "children"] : List Str)) = some (x, ps) := e; cases e; exact ⟨g7, u7.kp, fd7, b7⟩)
    | 8, e => exact (by have e : some (("state_of" : Str), (["machine", "marked"] : List Str)) = some (x, ps) := e; cases e; exact ⟨g8, u8.kp, fd8, b8⟩)
    | 9, e => exact (by have e : some (("accepts" : Str), (["machine", "marked"] : List Str)) = some (x, ps) := e; cases e; exact ⟨g9, u9.kp, fd9, b9⟩)
    | 10, e => exact (by have e : some (("mark" : Str), (["shape", "sets"] : List Str)) = some (x, ps) := e; cases e; exact ⟨g10, u10.kp, fd10, b10⟩)
    | 11, e => exact (by have e : some (("mark_part" : Str), (["shape", "path", "inside"] : List Str)) = some (x, ps) := e; cases e; exact ⟨g11, u11.kp, fd11, b11⟩)
    | 12, e => exact (by have e : some (("rows_by_sign" : Str), (["kind", "tracks"] : List Str)) = some (x, ps) := e; cases e; exact ⟨g12, u12.kp, fd12, b12⟩)
    | 13, e => exact (by have e : some (("_law_tape" : Str), (["script"] : List Str)) = some (x, ps) := e; cases e; exact ⟨g13, u13.kp, fd13, b13⟩)
    | 14, e => exact (by have e : some (("_law_take" : Str), (["tape", "many"] : List Str)) = some (x, ps) := e; cases e; exact ⟨g14, u14.kp, fd14, b14⟩)
    | 15, e => exact (by have e : some (("_law_is_integer" : Str), (["actual"] : List Str)) = some (x, ps) := e; cases e; exact ⟨g15, u15.kp, fd15, b15⟩)
    | 16, e => exact (by have e : some (("_law_same_items" : Str), (["actual", "expected"] : List Str)) = some (x, ps) := e; cases e; exact ⟨g16, u16.kp, fd16, b16⟩)
    | 17, e => exact (by have e : some (("_law_same" : Str), (["actual", "expected"] : List Str)) = some (x, ps) := e; cases e; exact ⟨g17, u17.kp, fd17, b17⟩)
    | 18, e => exact (by have e : some (("_law_kind" : Str), (["tape"] : List Str)) = some (x, ps) := e; cases e; exact ⟨g18, u18.kp, fd18, b18⟩)
    | 19, e => exact (by have e : some (("_law_shape" : Str), (["tape", "kind", "count"] : List Str)) = some (x, ps) := e; cases e; exact ⟨g19, u19.kp, fd19, b19⟩)
    | 20, e => exact (by have e : some (("_law_paths" : Str), (["shape", "path"] : List Str)) = some (x, ps) := e; cases e; exact ⟨g20, u20.kp, fd20, b20⟩)
    | 21, e => exact (by have e : some (("_law_signs" : Str), (["kind", "tracks"] : List Str)) = some (x, ps) := e; cases e; exact ⟨g21, u21.kp, fd21, b21⟩)
    | 22, e => exact (by have e : some (("_law_above" : Str), (["machine", "row", "children"] : List Str)) = some (x, ps) := e; cases e; exact ⟨g22, u22.kp, fd22, b22⟩)
    | 23, e => exact (by have e : some (("_law_run" : Str), (["machine", "marked", "rows"] : List Str)) = some (x, ps) := e; cases e; exact ⟨g23, u23.kp, fd23, b23⟩)
    | 24, e => exact (by have e : some (("_law_rows" : Str), (["kind", "tracks"] : List Str)) = some (x, ps) := e; cases e; exact ⟨g24, u24.kp, fd24, b24⟩)
    | 25, e => exact (by have e : some (("_law_marked" : Str), (["shape", "path", "sets"] : List Str)) = some (x, ps) := e; cases e; exact ⟨g25, u25.kp, fd25, b25⟩)
    | 26, e => exact (by have e : some (("_law_draw_machine" : Str), (["tape", "kind", "tracks", "many"] : List Str)) = some (x, ps) := e; cases e; exact ⟨g26, u26.kp, fd26, b26⟩)
    | 27, e => exact (by have e : some (("_law_is_row" : Str), (["value", "many", "levels"] : List Str)) = some (x, ps) := e; cases e; exact ⟨g27, u27.kp, fd27, b27⟩)
    | 28, e => exact (by have e : some (("_law_is_machine" : Str), (["value"] : List Str)) = some (x, ps) := e; cases e; exact ⟨g28, u28.kp, fd28, b28⟩)
    | 29, e => exact (by have e : some (("_law_spoilt" : Str), (["tape", "machine"] : List Str)) = some (x, ps) := e; cases e; exact ⟨g29, u29.kp, fd29, b29⟩)
    | 30, e => exact (by have e : some (("law" : Str), (["script"] : List Str)) = some (x, ps) := e; cases e; exact ⟨g30, u30.kp, fd30, b30⟩)
    | n + 31, e => exact (by have e : (none : Option (Str × List Str)) = some (x, ps) := e; cases e)
  · intro k Γ F j x ps e
    match j, e with
    | 0, e => exact (by have e : some (("check_kind" : Str), (["kind"] : List Str)) = some (x, ps) := e; cases e; exact ⟨⟨fd0, k_check_kind F hwW fc u0, b0⟩, g0, u0.kp⟩)
    | 1, e => exact (by have e : some (("all_marks" : Str), (["tracks"] : List Str)) = some (x, ps) := e; cases e; exact ⟨⟨fd1, k_all_marks F hwW fc u1, b1⟩, g1, u1.kp⟩)
    | 2, e => exact (by have e : some (("signs" : Str), (["kind", "tracks"] : List Str)) = some (x, ps) := e; cases e; exact ⟨⟨fd2, k_signs F hwW fc u2, b2⟩, g2, u2.kp⟩)
    | 3, e => exact (by have e : some (("is_number" : Str), (["value", "count"] : List Str)) = some (x, ps) := e; cases e; exact ⟨⟨fd3, k_is_number F hwW fc u3, b3⟩, g3, u3.kp⟩)
    | 4, e => exact (by have e : some (("is_row" : Str), (["value", "count", "levels"] : List Str)) = some (x, ps) := e; cases e; exact ⟨⟨fd4, k_is_row F hwW fc u4, b4⟩, g4, u4.kp⟩)
    | 5, e => exact (by have e : some (("is_kind" : Str), (["value"] : List Str)) = some (x, ps) := e; cases e; exact ⟨⟨fd5, k_is_kind F hwW fc u5, b5⟩, g5, u5.kp⟩)
    | 6, e => exact (by have e : some (("is_machine" : Str), (["value"] : List Str)) = some (x, ps) := e; cases e; exact ⟨⟨fd6, k_is_machine F hwW fc u6, b6⟩, g6, u6.kp⟩)
    | 7, e => exact (by have e : some (("state_above" : Str), (["machine", "row", "children"] : List Str)) = some (x, ps) := e; cases e; exact ⟨⟨fd7, k_state_above F hwW fc u7, b7⟩, g7, u7.kp⟩)
    | 8, e => exact (by have e : some (("state_of" : Str), (["machine", "marked"] : List Str)) = some (x, ps) := e; cases e; exact ⟨⟨fd8, k_state_of F hwW fc u8, b8⟩, g8, u8.kp⟩)
    | 9, e => exact (by have e : some (("accepts" : Str), (["machine", "marked"] : List Str)) = some (x, ps) := e; cases e; exact ⟨⟨fd9, k_accepts F hwW fc u9, b9⟩, g9, u9.kp⟩)
    | 10, e => exact (by have e : some (("mark" : Str), (["shape", "sets"] : List Str)) = some (x, ps) := e; cases e; exact ⟨⟨fd10, k_mark F hwW fc u10, b10⟩, g10, u10.kp⟩)
    | 11, e => exact (by have e : some (("mark_part" : Str), (["shape", "path", "inside"] : List Str)) = some (x, ps) := e; cases e; exact ⟨⟨fd11, k_mark_part F hwW fc u11, b11⟩, g11, u11.kp⟩)
    | 12, e => exact (by have e : some (("rows_by_sign" : Str), (["kind", "tracks"] : List Str)) = some (x, ps) := e; cases e; exact ⟨⟨fd12, k_rows_by_sign F hwW fc u12, b12⟩, g12, u12.kp⟩)
    | 13, e => exact (by have e : some (("_law_tape" : Str), (["script"] : List Str)) = some (x, ps) := e; cases e; exact ⟨⟨fd13, k__law_tape F hwW fc u13, b13⟩, g13, u13.kp⟩)
    | 14, e => exact (by have e : some (("_law_take" : Str), (["tape", "many"] : List Str)) = some (x, ps) := e; cases e; exact ⟨⟨fd14, k__law_take F hwW fc u14, b14⟩, g14, u14.kp⟩)
    | 15, e => exact (by have e : some (("_law_is_integer" : Str), (["actual"] : List Str)) = some (x, ps) := e; cases e; exact ⟨⟨fd15, k__law_is_integer F hwW fc u15, b15⟩, g15, u15.kp⟩)
    | 16, e => exact (by have e : some (("_law_same_items" : Str), (["actual", "expected"] : List Str)) = some (x, ps) := e; cases e; exact ⟨⟨fd16, k__law_same_items F hwW fc u16, b16⟩, g16, u16.kp⟩)
    | 17, e => exact (by have e : some (("_law_same" : Str), (["actual", "expected"] : List Str)) = some (x, ps) := e; cases e; exact ⟨⟨fd17, k__law_same F hwW fc u17, b17⟩, g17, u17.kp⟩)
    | 18, e => exact (by have e : some (("_law_kind" : Str), (["tape"] : List Str)) = some (x, ps) := e; cases e; exact ⟨⟨fd18, k__law_kind F hwW fc u18, b18⟩, g18, u18.kp⟩)
    | 19, e => exact (by have e : some (("_law_shape" : Str), (["tape", "kind", "count"] : List Str)) = some (x, ps) := e; cases e; exact ⟨⟨fd19, k__law_shape F hwW fc u19, b19⟩, g19, u19.kp⟩)
    | 20, e => exact (by have e : some (("_law_paths" : Str), (["shape", "path"] : List Str)) = some (x, ps) := e; cases e; exact ⟨⟨fd20, k__law_paths F hwW fc u20, b20⟩, g20, u20.kp⟩)
    | 21, e => exact (by have e : some (("_law_signs" : Str), (["kind", "tracks"] : List Str)) = some (x, ps) := e; cases e; exact ⟨⟨fd21, k__law_signs F hwW fc u21, b21⟩, g21, u21.kp⟩)
    | 22, e => exact (by have e : some (("_law_above" : Str), (["machine", "row", "children"] : List Str)) = some (x, ps) := e; cases e; exact ⟨⟨fd22, k__law_above F hwW fc u22, b22⟩, g22, u22.kp⟩)
    | 23, e => exact (by have e : some (("_law_run" : Str), (["machine", "marked", "rows"] : List Str)) = some (x, ps) := e; cases e; exact ⟨⟨fd23, k__law_run F hwW fc u23, b23⟩, g23, u23.kp⟩)
    | 24, e => exact (by have e : some (("_law_rows" : Str), (["kind", "tracks"] : List Str)) = some (x, ps) := e; cases e; exact ⟨⟨fd24, k__law_rows F hwW fc u24, b24⟩, g24, u24.kp⟩)
    | 25, e => exact (by have e : some (("_law_marked" : Str), (["shape", "path", "sets"] : List Str)) = some (x, ps) := e; cases e; exact ⟨⟨fd25, k__law_marked F hwW fc u25, b25⟩, g25, u25.kp⟩)
    | 26, e => exact (by have e : some (("_law_draw_machine" : Str), (["tape", "kind", "tracks", "many"] : List Str)) = some (x, ps) := e; cases e; exact ⟨⟨fd26, k__law_draw_machine F hwW fc u26, b26⟩, g26, u26.kp⟩)
    | 27, e => exact (by have e : some (("_law_is_row" : Str), (["value", "many", "levels"] : List Str)) = some (x, ps) := e; cases e; exact ⟨⟨fd27, k__law_is_row F hwW fc u27, b27⟩, g27, u27.kp⟩)
    | 28, e => exact (by have e : some (("_law_is_machine" : Str), (["value"] : List Str)) = some (x, ps) := e; cases e; exact ⟨⟨fd28, k__law_is_machine F hwW fc u28, b28⟩, g28, u28.kp⟩)
    | 29, e => exact (by have e : some (("_law_spoilt" : Str), (["tape", "machine"] : List Str)) = some (x, ps) := e; cases e; exact ⟨⟨fd29, k__law_spoilt F hwW fc u29, b29⟩, g29, u29.kp⟩)
    | 30, e => exact (by have e : some (("law" : Str), (["script"] : List Str)) = some (x, ps) := e; cases e; exact ⟨⟨fd30, k_law F hwW fc u30, b30⟩, g30, u30.kp⟩)
    | n + 31, e => exact (by have e : (none : Option (Str × List Str)) = some (x, ps) := e; cases e)
theorem facts {P : Program} {w : World} {K : PySem.W.Frag} {h : Heap} {mg : Str → Option Value} {f : Addr} (X : K.In h) (G : h.Ns mainGlobals mg) (hfa : mg ("law" : Str) = some (.ref f)) (c : He.SaysD fa fn K) (hwW : w = TheWorld.w) :
    ∃ fd : FuncData, (∀ (s : Shared) (v : Value), BindsTo s fd ⟨[v], []⟩ [("script", v)]) ∧ ∀ base : Heap, K.In base → base.Ns mainGlobals mg → FnOk P w K mg base (CXA P) 100 f fd ["script"] (spG K (lev D 100 30) 1) := by
  obtain ⟨fd, F, b⟩ := u_law c
  have g := He.glo_ok X G (c.fact 30 (f := .glo "law") rfl)
  have e := hfa.symm.trans g
  cases e
  have b' := FunD.bindsA (ps := ["script"]) F fun _ _ _ _ _ _ us hl => match us, hl with | [_], _ => rfl
  refine ⟨fd, fun s v => b' s [v] rfl, fun base X2 G2 => ?_⟩
  exact fn_cxa (k_law (all_of X2 G2 c hwW 99) hwW (fc_of X2 G2 c) F)
end L07
open PySem PySem.W PySem.Calls PyProof.Rows
theorem PySem.Challenge.cw_grovehouse_k07_runs_of_machines_holds : PySem.Challenge.rw_grovehouse_k07_runs_of_machines.Holds := by
  w_on; o_law
  refine HandSHeadRun.head_any (r := OpenLaw.row PySem.Challenge.rw_grovehouse_k07_runs_of_machines) (q := view (OpenLaw.row PySem.Challenge.rw_grovehouse_k07_runs_of_machines).prog [39]) (H := L07.hk) (ob := L07.ob) (M := 3000) (loose := L07.nm) (d := HandSHeadRun.topDef (OpenLaw.row PySem.Challenge.rw_grovehouse_k07_runs_of_machines).prog 39) (kwd := []) L07.ob_eq
    (by kernel_rfl) (fun s => by kernel_rfl) L07.run (by kernel_rfl) (by kernel_rfl) (by kernel_rfl) (by rfl) (by first | assumption | decide +kernel) (by decide +kernel) ⟨rfl, rfl, rfl, rfl, rfl, by decide +kernel⟩ ?hw ?hc
  case hw => w_witness2
  case hc =>
    refine L2.walk_ofE (l := PySem.Challenge.rw_grovehouse_k07_runs_of_machines) (n := 63) (k := 100) (x := "script") (CX := GH.CXA (PySem.Challenge.rw_grovehouse_k07_runs_of_machines).prog) rfl (by decide) (by kernel_rfl) ⟨rfl, by decide, by decide⟩ ?F (fun H s e s' z => Exists.elim z fun w _ => @GH.cxa_none ⟨w⟩ _ H s e s' z)
    intro w mg fa h Y G hmg0
    letI : GH.TheWorld := ⟨w⟩
    obtain ⟨K, KX, c⟩ := Y
    have hmg : mg ("law" : PySem.Str) = some (.ref fa) := by
      have e : (HandSHeadRun.topDef (OpenLaw.row PySem.Challenge.rw_grovehouse_k07_runs_of_machines).prog 39).name = ("law" : PySem.Str) := by kernel_rfl
      rw [← e]
      exact hmg0
    obtain ⟨fd, hb, hF⟩ := L07.facts (P := (PySem.Challenge.rw_grovehouse_k07_runs_of_machines).prog) (w := w) KX G hmg c rfl
    exact ⟨K, fd, _, KX, hb, fun H a ns hl hO hS => GH.sp_law hO hS (L07.law_true ns hl), hF⟩
