import PyProof.Rows.All
import Wide.All
import OpenK.AllK
import Wide.FinOn
import HandS.ForMost
import HandS.ForExc
import HandS.IsInst
import HandS.CallSlots
import HandS.FStr
import KE.KDictKeyed
import HandS.Style
import HandS.Flow
import HandS.Conv
import HandS.DeepEq
import KE.KDictList
import HandS.Strs
import HandS.ExcInit
import HandS.ClsMeth
import HandS.TryMany
import HandS.ExcField
import HandS.ExcIs
import HandS.Property
import KE.GoesNew
import HandS.Defaults
import KE.SortData
import PyProof.CollectStr
import HandS.Dict
import HandS.DictComp
import HandS.TupLen
import KE.KDictDisplayH
import HandS.Star
import OpenK.KOps
import KE.KDictCopyH
import KE.KDictSum
import KE.DataCmp
import PySem.Challenge.RW_restbooks_k16_rows_counted
set_option Elab.async false
set_option linter.all false
set_option maxRecDepth 100000
set_option maxHeartbeats 4000000
/-! DL: readings over data trees. D: a value with what it holds; Mem: the objects that may still change, by address. -/
namespace DL
open PySem PySem.Spec PyProof.Rows L2

inductive D where
  | non | bl (b : Bool) | int (i : Int) | str (cs : List Nat) | ref (a : Addr) | ty (n : String)
  | tup (ds : List D) | lst (ds : List D) | scr (ns : List Int)
  | ins (nm : Str) (fs : List (Str × D))
  | exc (a : Addr) (c : Value) (o : Option Addr) (nm : Str) (fs : List (Str × D))
  | dct (t : Bool) (kvs : List (D × D))

/-- the class of that name, as the module has it -/
def ClsI (K : PySem.W.Frag) (nm : Str) (C : Addr) : Prop := PySem.W.nsIn K mainGlobals nm = some (some (.ref C))
/-- the exceptions of the program; which of them a clause takes -/
def excL : List Str := ["RestError", "BadRow", "BadText", "BadKinds", "BadMost", "BadWays", "BadUnit", "BadUnits", "BadLimits", "TooMany", "NoStand", "BadReading", "BadPrices", "BadStops", "BadNeed", "BadName", "BadClosed", "NoNews", "NothingToUndo"]
def isSub (a b : Str) : Bool := a == b || b == "RestError"
/-- the class of that name, as the module has it -/
def ClsK (K : PySem.W.Frag) (nm : Str) (c : Value) : Prop := nm ∈ excL ∧ PySem.W.nsIn K mainGlobals nm = some (some c)
/-- keys: ints and texts; tuples of ints, of such tuples .. -/
def keyOf : D → Option Key
  | .int i => some (.inl i)
  | .str cs => some (.inr ⟨cs.toArray⟩)
  | _ => none
mutual
def nkOf : D → Option NestedKey
  | .int i => some (.num i)
  | .tup ds => (nkAll ds).map .tup
  | _ => none
def nkAll : List D → Option (List NestedKey)
  | [] => some []
  | d :: ds => (nkOf d).bind fun k => (nkAll ds).map (k :: ·)
end
/-- at p: a dict whose keys are tuples, each at an address of its own -/
def dNo (p : Addr) (xs : List (NestedKey × Addr × V)) : HO := .ext fun h => ∃ (w : World) (o : Obj) (es : Array DictEntry) (ep : Nat) (us : List Value), Vals (xs.map (·.2.2)) us ∧ h.get? p = some o ∧ o.ExactDict ∧ o.data = .dict es ep ∧ es.toList = (xs.zip us).map fun z => (⟨z.1.1.hash w, .ref z.1.2.1, z.2⟩ : DictEntry)

mutual
inductive Rep (K : PySem.W.Frag) (H : Hp) : D → V → Prop
  | non : Rep K H .non .non
  | bl (b : Bool) : Rep K H (.bl b) (.bl b)
  | int (i : Int) : Rep K H (.int i) (.int i)
  | str (cs : List Nat) : Rep K H (.str cs) (.str ⟨cs.toArray⟩)
  | ref (a : Addr) : Rep K H (.ref a) (.ref a)
  | ty (n : String) : Rep K H (.ty n) (.ty n)
  | tup {p : Addr} {ds : List D} {vs : List V} : H p = some (.tup vs) → Reps K H ds vs → Rep K H (.tup ds) (.ref p)
  | lst {p : Addr} {ds : List D} {vs : List V} : H p = some (.lst vs) → Reps K H ds vs → Rep K H (.lst ds) (.ref p)
  | scr {p : Addr} {ns : List Int} : SqL K H p (ns.map V.int) → Rep K H (.scr ns) (.ref p)
  | ins {p C dx : Addr} {nm : Str} {fs : List (Str × D)} {gs : List (Str × V)} : ClsI K nm C → H p = some (.ins C dx gs) → RepF K H fs gs → Rep K H (.ins nm fs) (.ref p)
  | exc {a dd : Addr} {nm : Str} {c : Value} {fs : List (Str × D)} {gs : List (Str × V)} : ClsK K nm c → H dd = some (.xd gs) → RepF K H fs gs → Rep K H (.exc a c (some dd) nm fs) (.ref a)
  | exc0 {a : Addr} {nm : Str} {c : Value} : ClsK K nm c → Rep K H (.exc a c none nm []) (.ref a)
  | dK {p : Addr} {kvs : List (D × D)} {us : List (Key × V)} : H p = some (.dK us) → RepK K H kvs us → Rep K H (.dct false kvs) (.ref p)
  | dT {p : Addr} {kvs : List (D × D)} {xs : List (NestedKey × Addr × V)} : H p = some (dNo p xs) → (p == sysModules) = false → xs.length ≤ sizeLine → (xs.map (·.1)).Nodup → RepT K H kvs xs → Rep K H (.dct true kvs) (.ref p)
inductive Reps (K : PySem.W.Frag) (H : Hp) : List D → List V → Prop
  | nil : Reps K H [] []
  | cons {d : D} {v : V} {ds : List D} {vs : List V} : Rep K H d v → Reps K H ds vs → Reps K H (d :: ds) (v :: vs)
inductive RepF (K : PySem.W.Frag) (H : Hp) : List (Str × D) → List (Str × V) → Prop
  | nil : RepF K H [] []
  | cons {f : Str} {d : D} {v : V} {fs : List (Str × D)} {gs : List (Str × V)} : Rep K H d v → RepF K H fs gs → RepF K H ((f, d) :: fs) ((f, v) :: gs)
inductive RepK (K : PySem.W.Frag) (H : Hp) : List (D × D) → List (Key × V) → Prop
  | nil : RepK K H [] []
  | cons {d e : D} {k : Key} {v : V} {r : List (D × D)} {s : List (Key × V)} : keyOf d = some k → Rep K H e v → RepK K H r s → RepK K H ((d, e) :: r) ((k, v) :: s)
inductive RepT (K : PySem.W.Frag) (H : Hp) : List (D × D) → List (NestedKey × Addr × V) → Prop
  | nil : RepT K H [] []
  | cons {d e : D} {k : NestedKey} {a : Addr} {v : V} {r : List (D × D)} {s : List (NestedKey × Addr × V)} : nkOf d = some k → k.depth ≤ 8 → Rep K H d (.ref a) → Rep K H e v → RepT K H r s → RepT K H ((d, e) :: r) ((k, a, v) :: s)
end

section
variable {K : PySem.W.Frag} {H H' : Hp}
mutual
theorem Rep.mono (e : Same H H') : ∀ {d : D} {v : V}, Rep K H d v → Rep K H' d v
  | _, _, .non => .non
  | _, _, .bl b => .bl b
  | _, _, .int i => .int i
  | _, _, .str c => .str c
  | _, _, .ref a => .ref a
  | _, _, .ty n => .ty n
  | _, _, .tup h r => .tup (e _ _ h) (Reps.mono e r)
  | _, _, .lst h r => .lst (e _ _ h) (Reps.mono e r)
  | _, _, .scr h => .scr (e.seq h)
  | _, _, .ins c h r => .ins c (e _ _ h) (RepF.mono e r)
  | _, _, .exc c h r => .exc c (e _ _ h) (RepF.mono e r)
  | _, _, .exc0 c => .exc0 c
  | _, _, .dK h r => .dK (e _ _ h) (RepK.mono e r)
  | _, _, .dT h z l n r => .dT (e _ _ h) z l n (RepT.mono e r)
theorem Reps.mono (e : Same H H') : ∀ {ds : List D} {vs : List V}, Reps K H ds vs → Reps K H' ds vs
  | _, _, .nil => .nil
  | _, _, .cons h r => .cons (Rep.mono e h) (Reps.mono e r)
theorem RepF.mono (e : Same H H') : ∀ {ds : List (Str × D)} {vs : List (Str × V)}, RepF K H ds vs → RepF K H' ds vs
  | _, _, .nil => .nil
  | _, _, .cons h r => .cons (Rep.mono e h) (RepF.mono e r)
theorem RepK.mono (e : Same H H') : ∀ {ds : List (D × D)} {vs : List (Key × V)}, RepK K H ds vs → RepK K H' ds vs
  | _, _, .nil => .nil
  | _, _, .cons k h r => .cons k (Rep.mono e h) (RepK.mono e r)
theorem RepT.mono (e : Same H H') : ∀ {ds : List (D × D)} {vs : List (NestedKey × Addr × V)}, RepT K H ds vs → RepT K H' ds vs
  | _, _, .nil => .nil
  | _, _, .cons k z g h r => .cons k z (Rep.mono e g) (Rep.mono e h) (RepT.mono e r)
end
theorem Reps.length : ∀ {ds : List D} {vs : List V}, Reps K H ds vs → ds.length = vs.length
  | _, _, .nil => rfl
  | _, _, .cons _ r => by rw [List.length_cons, List.length_cons, Reps.length r]
theorem Reps.get : ∀ {ds : List D} {vs : List V} {i : Nat} {d : D}, Reps K H ds vs → ds[i]? = some d → ∃ v, vs[i]? = some v ∧ Rep K H d v
  | _, _, _, _, .nil, h => by simp at h
  | _, _, 0, _, .cons h r, e => by
    simp at e
    subst e
    exact ⟨_, rfl, h⟩
  | _, _, i + 1, d, .cons h r, e => by
    simp at e
    obtain ⟨v, h1, h2⟩ := Reps.get (i := i) (d := d) r e
    exact ⟨v, by simpa using h1, h2⟩
theorem Reps.getV : ∀ {ds : List D} {vs : List V} {i : Nat} {v : V}, Reps K H ds vs → vs[i]? = some v → ∃ d, ds[i]? = some d ∧ Rep K H d v
  | _, _, _, _, .nil, h => by simp at h
  | _, _, 0, _, .cons h r, e => by
    simp at e
    subst e
    exact ⟨_, rfl, h⟩
  | _, _, i + 1, d, .cons h r, e => by
    simp at e
    obtain ⟨v, h1, h2⟩ := Reps.getV (i := i) (v := d) r e
    exact ⟨v, by simpa using h1, h2⟩
theorem Reps.append : ∀ {ds es : List D} {vs us : List V}, Reps K H ds vs → Reps K H es us → Reps K H (ds ++ es) (vs ++ us)
  | _, _, _, _, .nil, s => s
  | _, _, _, _, .cons h r, s => .cons h (Reps.append r s)
theorem Reps.take : ∀ {ds : List D} {vs : List V} (n : Nat), Reps K H ds vs → Reps K H (ds.take n) (vs.take n)
  | _, _, 0, _ => .nil
  | _, _, _ + 1, .nil => .nil
  | _, _, n + 1, .cons h r => .cons h (Reps.take n r)
theorem Reps.drop : ∀ {ds : List D} {vs : List V} (n : Nat), Reps K H ds vs → Reps K H (ds.drop n) (vs.drop n)
  | _, _, 0, r => r
  | _, _, _ + 1, .nil => .nil
  | _, _, n + 1, .cons _ r => Reps.drop n r
theorem Reps.set {d : D} {v : V} (h : Rep K H d v) : ∀ {ds : List D} {vs : List V} (n : Nat), Reps K H ds vs → Reps K H (ds.set n d) (vs.set n v)
  | _, _, _, .nil => .nil
  | _, _, 0, .cons _ r => .cons h r
  | _, _, n + 1, .cons q r => .cons q (Reps.set h n r)
theorem Reps.eraseIdx : ∀ {ds : List D} {vs : List V} (n : Nat), Reps K H ds vs → Reps K H (ds.eraseIdx n) (vs.eraseIdx n)
  | _, _, _, .nil => .nil
  | _, _, 0, .cons _ r => r
  | _, _, n + 1, .cons q r => .cons q (Reps.eraseIdx n r)
theorem Reps.dropLast {ds : List D} {vs : List V} (h : Reps K H ds vs) : Reps K H ds.dropLast vs.dropLast := by
  rw [List.dropLast_eq_take, List.dropLast_eq_take, h.length]
  exact h.take _
theorem Reps.reverse : ∀ {ds : List D} {vs : List V}, Reps K H ds vs → Reps K H ds.reverse vs.reverse
  | _, _, .nil => .nil
  | _, _, .cons h r => by
    rw [List.reverse_cons, List.reverse_cons]
    exact Reps.append (Reps.reverse r) (.cons h .nil)
theorem Reps.ints : ∀ {ns : List Int} {vs : List V}, Reps K H (ns.map D.int) vs → vs = ns.map V.int
  | [], _, .nil => rfl
  | n :: ns, _, .cons h r => by
    cases h
    rw [Reps.ints r]
    rfl
theorem Reps.ofInts : ∀ (ns : List Int), Reps K H (ns.map D.int) (ns.map V.int)
  | [] => .nil
  | n :: ns => .cons (.int n) (Reps.ofInts ns)
theorem Reps.bls : ∀ {bs : List Bool} {vs : List V}, Reps K H (bs.map D.bl) vs → vs = bs.map V.bl
  | [], _, .nil => rfl
  | n :: ns, _, .cons h r => by
    cases h
    rw [Reps.bls r]
    rfl
theorem Reps.strs : ∀ {bs : List (List Nat)} {vs : List V}, Reps K H (bs.map D.str) vs → vs = bs.map fun z => V.str ⟨z.toArray⟩
  | [], _, .nil => rfl
  | n :: ns, _, .cons h r => by
    cases h
    rw [Reps.strs r]
    rfl
theorem RepF.lookup : ∀ {fs : List (Str × D)} {gs : List (Str × V)} {f : Str} {d : D}, RepF K H fs gs → fs.lookup f = some d → ∃ v, gs.lookup f = some v ∧ Rep K H d v
  | _, _, _, _, .nil, h => by simp at h
  | _, _, f, d, .cons (f := g) h r, e => by
    rw [List.lookup_cons] at e ⊢
    cases q : f == g with
    | true =>
      rw [q] at e
      simp at e
      subst e
      exact ⟨_, rfl, h⟩
    | false =>
      rw [q] at e
      exact RepF.lookup r e
theorem RepF.lookup_none : ∀ {fs : List (Str × D)} {gs : List (Str × V)} {f : Str}, RepF K H fs gs → fs.lookup f = none → gs.lookup f = none
  | _, _, _, .nil, h => rfl
  | _, _, f, .cons (f := g) h r, e => by
    rw [List.lookup_cons] at e ⊢
    cases q : f == g with
    | true =>
      rw [q] at e
      cases e
    | false =>
      rw [q] at e
      exact RepF.lookup_none r e
end

/-! ### what may still change -/
inductive MO where
  | lst (ds : List D)
  | inv (P : List D → Prop)
  | ins (nm : Str) (fs : List (Str × D))
  | dct (t : Bool) (kvs : List (D × D))
abbrev Mem := Addr → Option MO
def mset (m : Mem) (a : Addr) (o : MO) : Mem := fun b => if b = a then some o else m b
def mdel (m : Mem) (a : Addr) : Mem := fun b => if b = a then none else m b
theorem mset_same {m : Mem} {a : Addr} {o : MO} : mset m a o a = some o := if_pos rfl
theorem mset_ne {m : Mem} {a b : Addr} {o : MO} (h : b ≠ a) : mset m a o b = m b := if_neg h
theorem mset_mset {m : Mem} {a : Addr} {o u : MO} : mset (mset m a o) a u = mset m a u := by
  funext b; unfold mset; split <;> rfl
theorem mdel_mset {m : Mem} {a : Addr} {o : MO} (h : m a = none) : mdel (mset m a o) a = m := by
  funext b; unfold mdel mset; split
  · rename_i e; rw [e, h]
  · rfl
theorem mset_self {m : Mem} {a : Addr} {o : MO} (h : m a = some o) : mset m a o = m := by
  funext b; unfold mset; split
  · rename_i e; rw [e, h]
  · rfl
theorem mset_comm {m : Mem} {a b : Addr} {o u : MO} (h : a ≠ b) : mset (mset m a o) b u = mset (mset m b u) a o := by
  funext c; unfold mset; split
  · rename_i e
    rw [if_neg (fun z => h (z.symm.trans e))]
  · rfl
theorem mne {m : Mem} {a b : Addr} {o : MO} (h : m a = some o) (h' : m b = none) : a ≠ b := by
  intro e; subst e; rw [h] at h'; cases h'

inductive RepO (K : PySem.W.Frag) (H : Hp) (p : Addr) : MO → HO → Prop
  | lst {ds : List D} {vs : List V} : Reps K H ds vs → RepO K H p (.lst ds) (.lst vs)
  | inv {P : List D → Prop} {ds : List D} {vs : List V} : Reps K H ds vs → P ds → RepO K H p (.inv P) (.lst vs)
  | ins {C dx : Addr} {nm : Str} {fs : List (Str × D)} {gs : List (Str × V)} : ClsI K nm C → RepF K H fs gs → RepO K H p (.ins nm fs) (.ins C dx gs)
  | dK {kvs : List (D × D)} {us : List (Key × V)} : RepK K H kvs us → RepO K H p (.dct false kvs) (.dK us)
  | dT {kvs : List (D × D)} {xs : List (NestedKey × Addr × V)} : (p == sysModules) = false → xs.length ≤ sizeLine → (xs.map (·.1)).Nodup → RepT K H kvs xs → RepO K H p (.dct true kvs) (dNo p xs)
theorem RepO.mono {K : PySem.W.Frag} {H H' : Hp} (e : Same H H') {p : Addr} {m : MO} {o : HO} (h : RepO K H p m o) : RepO K H' p m o := by
  cases h with
  | lst r => exact .lst (r.mono e)
  | inv r p => exact .inv (r.mono e) p
  | ins c r => exact .ins c (r.mono e)
  | dK r => exact .dK (r.mono e)
  | dT z l n r => exact .dT z l n (r.mono e)

structure Sep (K : PySem.W.Frag) (G : Hp) (m : Mem) (H : Hp) : Prop where
  sub : Same G H
  out : ∀ a o, m a = some o → G a = none
  own : ∀ a o, m a = some o → ∃ u, H a = some u ∧ RepO K G a o u
theorem same_upd {H : Hp} {p : Addr} {o : HO} (h : H p = none) : Same H (upd H p o) := fun b x e => by
  rw [upd_ne (ne_of_none e h)]
  exact e
section
variable {K : PySem.W.Frag} {G H : Hp} {m : Mem} {p a : Addr}
theorem Sep.free (s : Sep K G m H) (h : H p = none) : G p = none := s.sub.free h
theorem Sep.freeM (s : Sep K G m H) (h : H p = none) : m p = none := by
  cases q : m p with
  | none => rfl
  | some o =>
    obtain ⟨u, e, _⟩ := s.own p o q
    rw [h] at e
    cases e
/-- a new object that won't change -/
theorem Sep.laid (s : Sep K G m H) (h : H p = none) (o : HO) : Sep K (upd G p o) m (upd H p o) ∧ Same G (upd G p o) := by
  have gp := s.free h
  have sg : Same G (upd G p o) := same_upd gp
  refine ⟨⟨fun b x e => ?_, fun b x e => ?_, fun b x e => ?_⟩, sg⟩
  · by_cases hb : b = p
    · subst hb
      rw [upd_same] at e ⊢
      exact e
    · rw [upd_ne hb] at e ⊢
      exact s.sub b x e
  · have nb : b ≠ p := fun z => by
      subst z
      rw [s.freeM h] at e
      cases e
    rw [upd_ne nb]
    exact s.out b x e
  · have nb : b ≠ p := fun z => by
      subst z
      rw [s.freeM h] at e
      cases e
    obtain ⟨u, e1, e2⟩ := s.own b x e
    exact ⟨u, by rw [upd_ne nb]; exact e1, e2.mono sg⟩
/-- a new object that may change -/
theorem Sep.alloc (s : Sep K G m H) (h : H p = none) {o : HO} {x : MO} (r : RepO K G p x o) : Sep K G (mset m p x) (upd H p o) := by
  refine ⟨fun b y e => ?_, fun b y e => ?_, fun b y e => ?_⟩
  · have nb : b ≠ p := fun z => by
      subst z
      rw [s.free h] at e
      cases e
    rw [upd_ne nb]
    exact s.sub b y e
  · by_cases hb : b = p
    · subst hb
      exact s.free h
    · rw [mset_ne hb] at e
      exact s.out b y e
  · by_cases hb : b = p
    · subst hb
      rw [mset_same] at e
      cases e
      exact ⟨o, upd_same, r⟩
    · rw [mset_ne hb] at e
      obtain ⟨u, e1, e2⟩ := s.own b y e
      exact ⟨u, by rw [upd_ne hb]; exact e1, e2⟩
theorem Sep.write (s : Sep K G m H) {x y : MO} (h : m a = some x) {o : HO} (r : RepO K G a y o) : Sep K G (mset m a y) (upd H a o) := by
  refine ⟨fun b z e => ?_, fun b z e => ?_, fun b z e => ?_⟩
  · have nb : b ≠ a := fun q => by
      subst q
      rw [s.out b x h] at e
      cases e
    rw [upd_ne nb]
    exact s.sub b z e
  · by_cases hb : b = a
    · subst hb
      exact s.out b x h
    · rw [mset_ne hb] at e
      exact s.out b z e
  · by_cases hb : b = a
    · subst hb
      rw [mset_same] at e
      cases e
      exact ⟨o, upd_same, r⟩
    · rw [mset_ne hb] at e
      obtain ⟨u, e1, e2⟩ := s.own b z e
      exact ⟨u, by rw [upd_ne hb]; exact e1, e2⟩
/-- an object that won't change any more -/
theorem Sep.freeze (s : Sep K G m H) {x : MO} (h : m a = some x) {o : HO} (e : H a = some o) : Sep K (upd G a o) (mdel m a) H ∧ Same G (upd G a o) := by
  have gp := s.out a x h
  have sg : Same G (upd G a o) := same_upd gp
  have md : ∀ b z, mdel m a b = some z → b ≠ a ∧ m b = some z := fun b z q => by
    unfold mdel at q
    split at q
    · cases q
    · rename_i n
      exact ⟨n, q⟩
  refine ⟨⟨fun b z q => ?_, fun b z q => ?_, fun b z q => ?_⟩, sg⟩
  · by_cases hb : b = a
    · subst hb
      rw [upd_same] at q
      rw [e]
      exact q
    · rw [upd_ne hb] at q
      exact s.sub b z q
  · obtain ⟨n, q'⟩ := md b z q
    rw [upd_ne n]
    exact s.out b z q'
  · obtain ⟨n, q'⟩ := md b z q
    obtain ⟨u, e1, e2⟩ := s.own b z q'
    exact ⟨u, e1, e2.mono sg⟩
theorem Sep.drop (s : Sep K G m H) {m' : Mem} (h : ∀ b z, m' b = some z → m b = some z) : Sep K G m' H :=
  ⟨s.sub, fun b z e => s.out b z (h b z e), fun b z e => s.own b z (h b z e)⟩
theorem Sep.lst (s : Sep K G m H) {ds : List D} (h : m a = some (.lst ds)) : ∃ vs, H a = some (.lst vs) ∧ Reps K G ds vs := by
  obtain ⟨u, e, r⟩ := s.own a _ h
  cases r with
  | lst r => exact ⟨_, e, r⟩
end

/-! ### the names -/
abbrev Nv := List (Option D)
inductive RepN (K : PySem.W.Frag) (H : Hp) : Nv → L2.St → Prop
  | nil : RepN K H [] []
  | yes {d : D} {v : V} {r : Nv} {t : L2.St} : Rep K H d v → RepN K H r t → RepN K H (some d :: r) (some v :: t)
  | no {v : Option V} {r : Nv} {t : L2.St} : RepN K H r t → RepN K H (none :: r) (v :: t)
section
variable {K : PySem.W.Frag} {H H' : Hp}
theorem RepN.mono (e : Same H H') : ∀ {r : Nv} {t : L2.St}, RepN K H r t → RepN K H' r t
  | _, _, .nil => .nil
  | _, _, .yes h r => .yes (h.mono e) (RepN.mono e r)
  | _, _, .no r => .no (RepN.mono e r)
theorem RepN.get : ∀ {r : Nv} {t : L2.St} {i : Nat} {d : D}, RepN K H r t → r[i]? = some (some d) → ∃ v, t[i]? = some (some v) ∧ Rep K H d v
  | _, _, _, _, .nil, h => by simp at h
  | _, _, 0, _, .yes h r, e => by
    simp at e
    subst e
    exact ⟨_, rfl, h⟩
  | _, _, 0, _, .no r, e => by simp at e
  | _, _, i + 1, d, .yes h r, e => by
    simp at e
    obtain ⟨v, h1, h2⟩ := RepN.get (i := i) (d := d) r e
    exact ⟨v, by simpa using h1, h2⟩
  | _, _, i + 1, d, .no r, e => by
    simp at e
    obtain ⟨v, h1, h2⟩ := RepN.get (i := i) (d := d) r e
    exact ⟨v, by simpa using h1, h2⟩
theorem RepN.set {d : D} {v : V} (h : Rep K H d v) : ∀ {r : Nv} {t : L2.St} (i : Nat), RepN K H r t → RepN K H (r.set i (some d)) (t.set i (some v))
  | _, _, _, .nil => .nil
  | _, _, 0, .yes _ r => .yes h r
  | _, _, 0, .no r => .yes h r
  | _, _, i + 1, .yes q r => .yes q (RepN.set h i r)
  | _, _, i + 1, .no r => .no (RepN.set h i r)
theorem RepN.unset {v : Option V} : ∀ {r : Nv} {t : L2.St} (i : Nat), RepN K H r t → RepN K H (r.set i none) (t.set i v)
  | _, _, _, .nil => .nil
  | _, _, 0, .yes _ r => .no r
  | _, _, 0, .no r => .no r
  | _, _, i + 1, .yes q r => .yes q (RepN.unset i r)
  | _, _, i + 1, .no r => .no (RepN.unset i r)
theorem RepN.forget : ∀ {r : Nv} {t : L2.St} (i : Nat), RepN K H r t → RepN K H (r.set i none) t
  | _, _, _, .nil => .nil
  | _, _, 0, .yes _ r => .no r
  | _, _, 0, .no r => .no r
  | _, _, i + 1, .yes q r => .yes q (RepN.forget i r)
  | _, _, i + 1, .no r => .no (RepN.forget i r)
theorem RepN.nones : ∀ (n : Nat), RepN K H (List.replicate n none) (List.replicate n none)
  | 0 => .nil
  | n + 1 => .no (RepN.nones n)
theorem RepN.start : ∀ {ds : List D} {vs : List V} (n : Nat), Reps K H ds vs → RepN K H (ds.map some ++ List.replicate n none) (vs.map some ++ List.replicate n none)
  | _, _, n, .nil => RepN.nones n
  | _, _, n, .cons h r => .yes h (RepN.start n r)
end

/-! ### readings -/
abbrev QD := D → Mem → Prop
/-- what is wanted of an exception: its class's name, its attributes, the names and objects behind it -/
abbrev XD := Str → List (Str × D) → Nv → Mem → Prop
abbrev XF := Str → List (Str × D) → Mem → Prop
abbrev RE := XD → Nv → Mem → QD → Prop
abbrev RT := XD → Nv → Mem → (Bool → Mem → Prop) → Prop
abbrev RA := XD → Nv → Mem → (List D → Mem → Prop) → Prop
structure EN where
  nx : Nv → Mem → Prop
  rt : QD
  bk : Nv → Mem → Prop := fun _ _ => False
  ct : Nv → Mem → Prop := fun _ _ => False
abbrev RS := XD → EN → Nv → Mem → Prop

/-- an exception's attributes as its dict holds them -/
inductive RepX (K : PySem.W.Frag) (H : Hp) : Str → Value → List (Str × D) → Option Addr → Prop
  | no {nm : Str} {c : Value} : ClsK K nm c → RepX K H nm c [] none
  | yes {nm : Str} {c : Value} {d : Addr} {fs : List (Str × D)} {gs : List (Str × V)} : ClsK K nm c → H d = some (.xd gs) → RepF K H fs gs → RepX K H nm c fs (some d)
theorem RepX.mono {K : PySem.W.Frag} {H H' : Hp} (e : Same H H') {nm : Str} {c : Value} {fs : List (Str × D)} {o : Option Addr} (h : RepX K H nm c fs o) : RepX K H' nm c fs o := by
  cases h with
  | no z => exact .no z
  | yes z h r => exact .yes z (e _ _ h) (r.mono e)

/-- the D wish of an exception serves the V wish -/
def LinkX (K : PySem.W.Frag) (W : WX) (G : Hp) (xd : XD) : Prop := ∀ (nm : Str) (c : Value) (fs : List (Str × D)) (o : Option Addr) (r : Nv) (m : Mem) (t : L2.St) (G' H' : Hp),
  Same G G' → Sep K G' m H' → RepN K G' r t → RepX K G' nm c fs o → xd nm fs r m → W c o t H'
theorem LinkX.mono {K : PySem.W.Frag} {W : WX} {G G1 : Hp} {xd : XD} (h : LinkX K W G xd) (e : Same G G1) : LinkX K W G1 xd :=
  fun nm c fs o r m t G' H' e1 => h nm c fs o r m t G' H' (e.trans e1)

def lowE (K : PySem.W.Frag) (W : WX) (r : RE) : TE := fun t H Q => ∃ (n : Nv) (m : Mem) (G : Hp) (xd : XD) (q : QD), RepN K G n t ∧ Sep K G m H ∧ LinkX K W G xd ∧ r xd n m q ∧
  ∀ d m' v G' H', Same G G' → Sep K G' m' H' → Rep K G' d v → q d m' → Q v H'
def lowT (K : PySem.W.Frag) (W : WX) (r : RT) : TT := fun t H Q => ∃ (n : Nv) (m : Mem) (G : Hp) (xd : XD) (q : Bool → Mem → Prop), RepN K G n t ∧ Sep K G m H ∧ LinkX K W G xd ∧ r xd n m q ∧
  ∀ b m' G' H', Same G G' → Sep K G' m' H' → q b m' → Q b H'
def lowA (K : PySem.W.Frag) (W : WX) (r : RA) : TA := fun t H Q => ∃ (n : Nv) (m : Mem) (G : Hp) (xd : XD) (q : List D → Mem → Prop), RepN K G n t ∧ Sep K G m H ∧ LinkX K W G xd ∧ r xd n m q ∧
  ∀ ds m' vs G' H', Same G G' → Sep K G' m' H' → Reps K G' ds vs → q ds m' → Q vs H'
structure LinkS (K : PySem.W.Frag) (G : Hp) (e : EN) (D : Ends) : Prop where
  nx : ∀ n m t G' H', Same G G' → Sep K G' m H' → RepN K G' n t → e.nx n m → D.nx t H'
  rt : ∀ d m v G' H', Same G G' → Sep K G' m H' → Rep K G' d v → e.rt d m → D.rt v H'
  bk : ∀ n m t G' H', Same G G' → Sep K G' m H' → RepN K G' n t → e.bk n m → D.bk t H'
  ct : ∀ n m t G' H', Same G G' → Sep K G' m H' → RepN K G' n t → e.ct n m → D.ct t H'
theorem LinkS.mono {K : PySem.W.Frag} {G G1 : Hp} {e : EN} {D : Ends} (h : LinkS K G e D) (s : Same G G1) : LinkS K G1 e D :=
  ⟨fun n m t G' H' a => h.nx n m t G' H' (s.trans a), fun d m v G' H' a => h.rt d m v G' H' (s.trans a), fun n m t G' H' a => h.bk n m t G' H' (s.trans a), fun n m t G' H' a => h.ct n m t G' H' (s.trans a)⟩
def lowS (K : PySem.W.Frag) (W : WX) (r : RS) : TS := fun D t H => ∃ (n : Nv) (m : Mem) (G : Hp) (xd : XD) (e : EN), RepN K G n t ∧ Sep K G m H ∧ LinkX K W G xd ∧ r xd e n m ∧ LinkS K G e D

abbrev DE (X : Cx) (W : WX) (e : Expr) (r : RE) : Prop := PE X e (lowE X.K W r)
abbrev DT (X : Cx) (W : WX) (e : Expr) (r : RT) : Prop := PT X e (lowT X.K W r)
abbrev DW (X : Cx) (W : WX) (e : Expr) (r : RT) : Prop := PW X e (lowT X.K W r)
abbrev DA (X : Cx) (W : WX) (es : List Expr) (r : RA) : Prop := PA X es (lowA X.K W r)
abbrev DS (X : Cx) (W : WX) (s : Stmt) (r : RS) : Prop := PS X s (lowS X.K W r)
abbrev DSs (X : Cx) (W : WX) (s : List Stmt) (r : RS) : Prop := PSs X s (lowS X.K W r)

theorem PE.imp {X : Cx} {e : Expr} {t u : TE} (h : PE X e t) (i : ∀ s H Q, u s H Q → t s H Q) : PE X e u := ⟨fun pins s σ H Q I q => h.run pins s σ H Q I (i σ H Q q)⟩
theorem PT.imp {X : Cx} {e : Expr} {t u : TT} (h : PT X e t) (i : ∀ s H Q, u s H Q → t s H Q) : PT X e u := ⟨fun pins s σ H Q I q => h.run pins s σ H Q I (i σ H Q q)⟩
theorem PW.imp {X : Cx} {e : Expr} {t u : TT} (h : PW X e t) (i : ∀ s H Q, u s H Q → t s H Q) : PW X e u := ⟨fun w pins s σ H Q I q => h.run w pins s σ H Q I (i σ H Q q)⟩
theorem PA.imp {X : Cx} {es : List Expr} {t u : TA} (h : PA X es t) (i : ∀ s H Q, u s H Q → t s H Q) : PA X es u := ⟨fun p pins s σ H Q I q => h.run p pins s σ H Q I (i σ H Q q)⟩
theorem PS.imp {X : Cx} {e : Stmt} {t u : TS} (h : PS X e t) (i : ∀ D s H, u D s H → t D s H) : PS X e u := ⟨fun pins s σ H D I q => h.run pins s σ H D I (i D σ H q)⟩
theorem PSs.imp {X : Cx} {e : List Stmt} {t u : TS} (h : PSs X e t) (i : ∀ D s H, u D s H → t D s H) : PSs X e u := ⟨fun pins s σ H D I q => h.run pins s σ H D I (i D σ H q)⟩
end DL

/-! DL2: expressions -/
namespace DL
open PySem PySem.Spec PyProof.Rows L2

/-! ### data as the library's -/
mutual
def toP : D → PyData
  | .non => .none
  | .bl b => .bool b
  | .int i => .int i
  | .str cs => .str ⟨cs.toArray⟩
  | .tup ds => .tuple (toPs ds)
  | .lst ds => .list (toPs ds)
  | .scr ns => .list (ns.map .int)
  | .ref _ => .dict []
  | .ty _ => .dict []
  | .ins _ _ => .dict []
  | .exc _ _ _ _ _ => .dict []
  | .dct _ _ => .dict []
def toPs : List D → List PyData
  | [] => []
  | d :: ds => toP d :: toPs ds
end
mutual
/-- plain data, at most k deep -/
def fl : Nat → D → Bool
  | _, .non => true
  | _, .bl _ => true
  | _, .int _ => true
  | _, .str cs => cs.all fun c => decide (c < 1114112)
  | k, .tup ds => match k with
    | 0 => false
    | k + 1 => fls k ds
  | k, .lst ds => match k with
    | 0 => false
    | k + 1 => fls k ds
  | _, .scr _ => false
  | _, .ref _ => false
  | _, .ty _ => false
  | _, .ins _ _ => false
  | _, .exc _ _ _ _ _ => false
  | _, .dct _ _ => false
def fls : Nat → List D → Bool
  | _, [] => true
  | k, d :: ds => fl k d && fls k ds
end
theorem fls_iff : ∀ {k : Nat} {ds : List D}, fls k ds = true ↔ ∀ d ∈ ds, fl k d = true
  | k, [] => by simp [fls]
  | k, d :: ds => by
    rw [fls, Bool.and_eq_true, fls_iff]
    simp
theorem toPs_map : ∀ ds : List D, toPs ds = ds.map toP
  | [] => rfl
  | d :: ds => by rw [toPs, toPs_map ds, List.map_cons]
def eqD (x y : D) : Bool := PyData.eqv (toP x) (toP y)
mutual
theorem fl_canLay : ∀ (k : Nat) (d : D), fl k d = true → (toP d).canLay0 = true ∧ (toP d).depth ≤ k
  | k, .non, _ => ⟨rfl, Nat.zero_le _⟩
  | k, .bl _, _ => ⟨rfl, Nat.zero_le _⟩
  | k, .int _, _ => ⟨rfl, Nat.zero_le _⟩
  | k, .str cs, h => by
    refine ⟨?_, Nat.zero_le _⟩
    rw [toP, PyData.canLay0]
    unfold PyData.strOk
    rw [fl] at h
    simpa using h
  | 0, .tup ds, h => by simp [fl] at h
  | k + 1, .tup ds, h => by
    obtain ⟨h1, h2⟩ := fls_canLay k ds (by simpa [fl] using h)
    exact ⟨by rw [toP, PyData.canLay0]; exact h1, by rw [toP, PyData.depth]; omega⟩
  | 0, .lst ds, h => by simp [fl] at h
  | k + 1, .lst ds, h => by
    obtain ⟨h1, h2⟩ := fls_canLay k ds (by simpa [fl] using h)
    exact ⟨by rw [toP, PyData.canLay0]; exact h1, by rw [toP, PyData.depth]; omega⟩
  | k, .scr _, h => by simp [fl] at h
  | k, .ref _, h => by simp [fl] at h
  | k, .ty _, h => by simp [fl] at h
  | k, .ins _ _, h => by simp [fl] at h
  | k, .exc _ _ _ _ _, h => by simp [fl] at h
  | k, .dct _ _, h => by simp [fl] at h
theorem fls_canLay : ∀ (k : Nat) (ds : List D), fls k ds = true → PyData.canLayAll0 (toPs ds) = true ∧ PyData.depthAll (toPs ds) ≤ k
  | k, [], _ => ⟨rfl, Nat.zero_le _⟩
  | k, d :: ds, h => by
    rw [fls, Bool.and_eq_true] at h
    obtain ⟨h1, h2⟩ := fl_canLay k d h.1
    obtain ⟨h3, h4⟩ := fls_canLay k ds h.2
    refine ⟨?_, ?_⟩
    · rw [toPs, PyData.canLayAll0, h1, h3]
      rfl
    · rw [toPs, PyData.depthAll]
      omega
end
theorem fl_shaped {k : Nat} {d : D} (h : fl k d = true) (hk : k ≤ 64) : SeqAt.shaped (toP d) = true := by
  obtain ⟨h1, h2⟩ := fl_canLay k d h
  unfold SeqAt.shaped
  rw [h1, decide_eq_true (by omega)]
  rfl
theorem eqD_refl {k : Nat} {d : D} (h : fl k d = true) : eqD d d = true := SeqAt.eqv_refl _ (fl_canLay k d h).1
section
variable {K : PySem.W.Frag} {H : Hp}
mutual
theorem Rep.dp : ∀ {d : D} {v : V}, Rep K H d v → ∀ k, fl k d = true → Dp K H v (toP d)
  | _, _, .non, _, _ => .non
  | _, _, .bl b, _, _ => .bl b
  | _, _, .int i, _, _ => .int i
  | _, _, .str c, _, _ => .str _
  | _, _, .ref a, k, h => by simp [fl] at h
  | _, _, .ty n, k, h => by simp [fl] at h
  | _, _, .tup (ds := ds) e r, 0, h => by simp [fl] at h
  | _, _, .tup (ds := ds) e r, k + 1, h => by
    rw [toP]
    exact .tup (SqT.of e) (Reps.dp r k (by simpa [fl] using h))
  | _, _, .lst (ds := ds) e r, 0, h => by simp [fl] at h
  | _, _, .lst (ds := ds) e r, k + 1, h => by
    rw [toP]
    exact .lst (SqL.of e) (Reps.dp r k (by simpa [fl] using h))
  | _, _, .scr e, k, h => by simp [fl] at h
  | _, _, .ins c e r, k, h => by simp [fl] at h
  | _, _, .exc c e r, k, h => by simp [fl] at h
  | _, _, .exc0 c, k, h => by simp [fl] at h
  | _, _, .dK e r, k, h => by simp [fl] at h
  | _, _, .dT e z l n r, k, h => by simp [fl] at h
theorem Reps.dp : ∀ {ds : List D} {vs : List V}, Reps K H ds vs → ∀ k, fls k ds = true → DpAll K H vs (toPs ds)
  | _, _, .nil, _, _ => .nil
  | _, _, .cons h r, k, e => by
    rw [fls, Bool.and_eq_true] at e
    rw [toPs]
    exact .cons (Rep.dp h k e.1) (Reps.dp r k e.2)
end
end

/-! ### names, constants -/
def rVar (i : Nat) : RE := fun _ n m q => ∃ d, n[i]? = some (some d) ∧ q d m
def rC (d : D) : RE := fun _ _ m q => q d m
section
variable {X : Cx} {W : WX}
theorem de_of {e : Expr} {i : Nat} (h : PE X e (tVar i)) : DE X W e (rVar i) := PE.imp h fun t H Q ⟨n, m, G, xd, q, hn, hs, hl, hr, hq⟩ => by
  obtain ⟨d, e1, hr⟩ := hr
  obtain ⟨v, e2, r⟩ := hn.get e1
  exact ⟨v, e2, hq d m v G H (Same.refl G) hs r hr⟩
theorem dv (i : Nat) {x : Str} {pos : Pos} (hN : X.N[i]? = some x := by rfl) (hv : Vis X.env.scope x := by first | exact Or.inl rfl | exact Or.inr (Or.inl rfl) | exact Or.inr (Or.inr rfl)) (hd : (x == ("__debug__" : Str)) = false := by decide)
    (hcd : (x == ("__classdict__" : Str)) = false := by decide) : DE X W (.Name x pos) (rVar i) := de_of (pe_var hN hv hd hcd)
theorem de_c {e : Expr} {v : V} {d : D} (h : PE X e (tC v)) (r : ∀ G, Rep X.K G d v) : DE X W e (rC d) := PE.imp h fun t H Q ⟨n, m, G, xd, q, hn, hs, hl, hr, hq⟩ =>
  hq d m v G H (Same.refl G) hs (r G) hr
theorem de_int {i j pos} : DE X W (.Constant (.int i) j pos) (rC (.int i)) := de_c pe_int fun _ => .int i
theorem de_bl {i j pos} : DE X W (.Constant (.bool i) j pos) (rC (.bl i)) := de_c pe_bl fun _ => .bl i
theorem de_non {j pos} : DE X W (.Constant .none j pos) (rC .non) := de_c pe_non fun _ => .non
theorem str_eta (x : Str) : (⟨x.cps.toList.toArray⟩ : Str) = x := by cases x; simp
theorem de_str {x j pos} (cs : List Nat) (h : x.cps.toList = cs := by rfl) : DE X W (.Constant (.str x) j pos) (rC (.str cs)) := de_c pe_str fun _ => by
  have e : x = ⟨cs.toArray⟩ := by rw [← h, str_eta]
  rw [e]
  exact .str cs
/-- a constant of the module -/
theorem de_glob {x : Str} {v : V} {u : Value} {pos : Pos} {d : D} (hg : Gl X x) (hm : X.mg x = some u) (r : RelV v u) (hr : ∀ G, Rep X.K G d v) (hd : (x == ("__debug__" : Str)) = false := by decide) : DE X W (.Name x pos) (rC d) := de_c (pe_glob hg hm r hd) hr
theorem de_bltn {x : Str} {v : V} {u : Value} {pos : Pos} {d : D} (hg : Gl X x) (hm : X.mg x = none) (hv : bootBuiltins x = some u) (r : RelV v u) (hr : ∀ G, Rep X.K G d v) (hn : x ≠ "__name__" := by decide) (hd : (x == ("__debug__" : Str)) = false := by decide) : DE X W (.Name x pos) (rC d) := de_c (pe_bltn hg hm hv r hn hd) hr

/-! ### two-place operations -/
abbrev G2 := D → D → Mem → QD → Prop
def lowQ (K : PySem.W.Frag) (G : Hp) (q : QD) (Q : VK) : Prop := ∀ d m' v G' H', Same G G' → Sep K G' m' H' → Rep K G' d v → q d m' → Q v H'
def low2 (K : PySem.W.Frag) (g : G2) : R2 := fun x y H Q => ∃ dx dy m G q, Rep K G dx x ∧ Rep K G dy y ∧ Sep K G m H ∧ g dx dy m q ∧ lowQ K G q Q
theorem lowQ.mono {K : PySem.W.Frag} {G G1 : Hp} {q : QD} {Q : VK} (h : lowQ K G q Q) (e : Same G G1) : lowQ K G1 q Q := fun d m' v G' H' a => h d m' v G' H' (e.trans a)
theorem lowQ.here {K : PySem.W.Frag} {G H : Hp} {m : Mem} {q : QD} {Q : VK} {d : D} {v : V} (h : lowQ K G q Q) (s : Sep K G m H) (r : Rep K G d v) (k : q d m) : Q v H := h d m v G H (Same.refl G) s r k
def rOp (g : G2) (ra rb : RE) : RE := fun xd n m q => ra xd n m fun x m1 => rb xd n m1 fun y m2 => g x y m2 q
variable {a b c : Expr} {ra rb rc : RE} {pos : Pos}
theorem lowOp {g : G2} : ∀ t H Q, lowE X.K W (rOp g ra rb) t H Q → tOp (low2 X.K g) (lowE X.K W ra) (lowE X.K W rb) t H Q := fun t H Q ⟨n, m, G, xd, q, hn, hs, hl, hr, hq⟩ =>
  ⟨n, m, G, xd, _, hn, hs, hl, hr, fun dx m1 x G1 H1 e1 s1 r1 q1 => ⟨n, m1, G1, xd, _, hn.mono e1, s1, hl.mono e1, q1, fun dy m2 y G2 H2 e2 s2 r2 q2 =>
    ⟨dx, dy, m2, G2, q, r1.mono e2, r2, s2, q2, fun d m' v G' H' e3 s3 r3 q3 => hq d m' v G' H' (e1.trans (e2.trans e3)) s3 r3 q3⟩⟩⟩
theorem de_op {op : Operator} {g : G2} (ho : OpR X (binaryOp op) (low2 X.K g)) (ha : DE X W a ra) (hb : DE X W b rb) : DE X W (.BinOp a op b pos) (rOp g ra rb) := PE.imp (pe_op ho ha hb) lowOp
theorem de_cmp {op : CmpOp} {g : G2} (ho : OpR X (compareOp op) (low2 X.K g)) (ha : DE X W a ra) (hb : DE X W b rb) (hm : behindInMarks op b = false) : DE X W (.Compare a [op] [b] pos) (rOp g ra rb) := PE.imp (pe_cmpR ho ha hb hm) lowOp
/-- a value as a test: it must be a bool -/
def rTst (r : RE) : RT := fun xd n m q => r xd n m fun d m1 => ∃ b, d = .bl b ∧ q b m1
theorem lowTst {r : RE} : ∀ t H Q, lowT X.K W (rTst r) t H Q → tTest (lowE X.K W r) t H Q := fun t H Q ⟨n, m, G, xd, q, hn, hs, hl, hr, hq⟩ =>
  ⟨n, m, G, xd, _, hn, hs, hl, hr, fun d m1 v G1 H1 e1 s1 r1 ⟨b, e, q1⟩ => by
    subst e
    cases r1
    exact ⟨b, rfl, hq b m1 G1 H1 e1 s1 q1⟩⟩
theorem dt_val {e : Expr} {r : RE} (h : DE X W e r) (he : ∀ whole, isTrue e X.env whole = (do let v ← whole; standAt e.pos; holding [v] (truthy v)) := by intro _; rfl) : DT X W e (rTst r) := PT.imp (pt_val h he) lowTst
theorem dt_cmp {op : CmpOp} {g : G2} (ho : OpR X (compareOp op) (low2 X.K g)) (ha : DE X W a ra) (hb : DE X W b rb) (hm : behindInMarks op b = false) : DT X W (.Compare a [op] [b] pos) (rTst (rOp g ra rb)) :=
  PT.imp (pt_cmpR ho ha hb hm) fun t H Q ⟨n, m, G, xd, q, hn, hs, hl, hr, hq⟩ =>
    ⟨n, m, G, xd, _, hn, hs, hl, hr, fun dx m1 x G1 H1 e1 s1 r1 q1 => ⟨n, m1, G1, xd, _, hn.mono e1, s1, hl.mono e1, q1, fun dy m2 y G2 H2 e2 s2 r2 q2 =>
      ⟨dx, dy, m2, G2, _, r1.mono e2, r2, s2, q2, fun d m' v G' H' e3 s3 r3 ⟨k, e, q3⟩ => by
        subst e
        cases r3
        exact ⟨k, rfl, hq k m' G' H' (e1.trans (e2.trans e3)) s3 q3⟩⟩⟩⟩

/-! ### and, or, not, if -/
def rNot (r : RT) : RT := fun xd n m q => r xd n m fun b m1 => q (!b) m1
def rAnd (r u : RT) : RT := fun xd n m q => r xd n m fun b m1 => if b = true then u xd n m1 q else q false m1
def rOr (r u : RT) : RT := fun xd n m q => r xd n m fun b m1 => if b = true then q true m1 else u xd n m1 q
variable {ta tb : RT} {rest : List Expr}
theorem dt_not (h : DT X W a ta) : DT X W (.UnaryOp .Not a pos) (rNot ta) := PT.imp (pt_not h) fun t H Q ⟨n, m, G, xd, q, hn, hs, hl, hr, hq⟩ =>
  ⟨n, m, G, xd, _, hn, hs, hl, hr, fun b m1 G1 H1 e1 s1 q1 => hq (!b) m1 G1 H1 e1 s1 q1⟩
theorem dw_and1 (h : DT X W a ta) : DW X W (.BoolOp .And [a] pos) ta := pw_and1 h
theorem dw_or1 (h : DT X W a ta) : DW X W (.BoolOp .Or [a] pos) ta := pw_or1 h
theorem dw_and (ha : DT X W a ta) (hb : DW X W (.BoolOp .And (b :: rest) pos) tb) : DW X W (.BoolOp .And (a :: b :: rest) pos) (rAnd ta tb) := PW.imp (pw_and ha hb) fun t H Q ⟨n, m, G, xd, q, hn, hs, hl, hr, hq⟩ =>
  ⟨n, m, G, xd, _, hn, hs, hl, hr, fun b m1 G1 H1 e1 s1 q1 => by
    cases b with
    | true => exact ⟨n, m1, G1, xd, q, hn.mono e1, s1, hl.mono e1, q1, fun b m' G' H' e2 s2 q2 => hq b m' G' H' (e1.trans e2) s2 q2⟩
    | false => exact hq false m1 G1 H1 e1 s1 q1⟩
theorem dw_or (ha : DT X W a ta) (hb : DW X W (.BoolOp .Or (b :: rest) pos) tb) : DW X W (.BoolOp .Or (a :: b :: rest) pos) (rOr ta tb) := PW.imp (pw_or ha hb) fun t H Q ⟨n, m, G, xd, q, hn, hs, hl, hr, hq⟩ =>
  ⟨n, m, G, xd, _, hn, hs, hl, hr, fun b m1 G1 H1 e1 s1 q1 => by
    cases b with
    | true => exact hq true m1 G1 H1 e1 s1 q1
    | false => exact ⟨n, m1, G1, xd, q, hn.mono e1, s1, hl.mono e1, q1, fun b m' G' H' e2 s2 q2 => hq b m' G' H' (e1.trans e2) s2 q2⟩⟩
theorem DW.t {e : Expr} {r : RT} (h : DW X W e r) : DT X W e r := PW.pt h
/-- as values: all but the last are bools -/
def rAndV (r u : RE) : RE := fun xd n m q => r xd n m fun d m1 => ∃ b, d = .bl b ∧ if b = true then u xd n m1 q else q (.bl false) m1
def rOrV (r u : RE) : RE := fun xd n m q => r xd n m fun d m1 => ∃ b, d = .bl b ∧ if b = true then q (.bl true) m1 else u xd n m1 q
def rNotV (r : RE) : RE := fun xd n m q => r xd n m fun d m1 => ∃ b, d = .bl b ∧ q (.bl (!b)) m1
theorem de_one {op} (h : DE X W a ra) : DE X W (.BoolOp op [a] pos) ra := pe_one h
theorem de_and (ha : DE X W a ra) (hb : DE X W (.BoolOp .And (b :: rest) pos) rb) : DE X W (.BoolOp .And (a :: b :: rest) pos) (rAndV ra rb) := PE.imp (pe_and ha hb) fun t H Q ⟨n, m, G, xd, q, hn, hs, hl, hr, hq⟩ =>
  ⟨n, m, G, xd, _, hn, hs, hl, hr, fun d m1 v G1 H1 e1 s1 r1 ⟨b, e, q1⟩ => by
    subst e
    cases r1
    refine ⟨b, rfl, ?_⟩
    cases b with
    | true => exact ⟨n, m1, G1, xd, q, hn.mono e1, s1, hl.mono e1, q1, fun d m' v G' H' e2 s2 r2 q2 => hq d m' v G' H' (e1.trans e2) s2 r2 q2⟩
    | false => exact hq (.bl false) m1 _ G1 H1 e1 s1 (.bl false) q1⟩
theorem de_or (ha : DE X W a ra) (hb : DE X W (.BoolOp .Or (b :: rest) pos) rb) : DE X W (.BoolOp .Or (a :: b :: rest) pos) (rOrV ra rb) := PE.imp (pe_or ha hb) fun t H Q ⟨n, m, G, xd, q, hn, hs, hl, hr, hq⟩ =>
  ⟨n, m, G, xd, _, hn, hs, hl, hr, fun d m1 v G1 H1 e1 s1 r1 ⟨b, e, q1⟩ => by
    subst e
    cases r1
    refine ⟨b, rfl, ?_⟩
    cases b with
    | true => exact hq (.bl true) m1 _ G1 H1 e1 s1 (.bl true) q1
    | false => exact ⟨n, m1, G1, xd, q, hn.mono e1, s1, hl.mono e1, q1, fun d m' v G' H' e2 s2 r2 q2 => hq d m' v G' H' (e1.trans e2) s2 r2 q2⟩⟩
theorem de_not (ha : DE X W a ra) : DE X W (.UnaryOp .Not a pos) (rNotV ra) := PE.imp (pe_not ha) fun t H Q ⟨n, m, G, xd, q, hn, hs, hl, hr, hq⟩ =>
  ⟨n, m, G, xd, _, hn, hs, hl, hr, fun d m1 v G1 H1 e1 s1 r1 ⟨b, e, q1⟩ => by
    subst e
    cases r1
    exact ⟨b, rfl, hq (.bl (!b)) m1 _ G1 H1 e1 s1 (.bl _) q1⟩⟩
def rIfE (r : RT) (u v : RE) : RE := fun xd n m q => r xd n m fun b m1 => if b = true then u xd n m1 q else v xd n m1 q
theorem de_if (hc : DT X W c ta) (ha : DE X W a ra) (hb : DE X W b rb) : DE X W (.IfExp c a b pos) (rIfE ta ra rb) := PE.imp (pe_ifExp hc ha hb) fun t H Q ⟨n, m, G, xd, q, hn, hs, hl, hr, hq⟩ =>
  ⟨n, m, G, xd, _, hn, hs, hl, hr, fun b m1 G1 H1 e1 s1 q1 => by
    cases b with
    | true => exact ⟨n, m1, G1, xd, q, hn.mono e1, s1, hl.mono e1, q1, fun d m' v G' H' e2 s2 r2 q2 => hq d m' v G' H' (e1.trans e2) s2 r2 q2⟩
    | false => exact ⟨n, m1, G1, xd, q, hn.mono e1, s1, hl.mono e1, q1, fun d m' v G' H' e2 s2 r2 q2 => hq d m' v G' H' (e1.trans e2) s2 r2 q2⟩⟩
/-- a op b op c -/
def rChain (g g' : G2) (ra rb rc : RE) : RE := fun xd n m q => ra xd n m fun x m1 => rb xd n m1 fun y m2 => g x y m2 fun z m3 => ∃ k, z = .bl k ∧ if k = true then rc xd n m3 fun w m4 => g' y w m4 q else q (.bl false) m3
theorem lowChain {g g' : G2} : ∀ t H Q, lowE X.K W (rChain g g' ra rb rc) t H Q → tChain (low2 X.K g) (low2 X.K g') (lowE X.K W ra) (lowE X.K W rb) (lowE X.K W rc) t H Q := fun t H Q ⟨n, m, G, xd, q, hn, hs, hl, hr, hq⟩ =>
  ⟨n, m, G, xd, _, hn, hs, hl, hr, fun dx m1 x G1 H1 e1 s1 r1 q1 => ⟨n, m1, G1, xd, _, hn.mono e1, s1, hl.mono e1, q1, fun dy m2 y G2 H2 e2 s2 r2 q2 =>
    ⟨dx, dy, m2, G2, _, r1.mono e2, r2, s2, q2, fun d m3 v G3 H3 e3 s3 r3 ⟨k, e, q3⟩ => by
      subst e
      cases r3
      refine ⟨k, rfl, ?_⟩
      have e13 := e1.trans (e2.trans e3)
      cases k with
      | true => exact ⟨n, m3, G3, xd, _, hn.mono e13, s3, hl.mono e13, q3, fun dw m4 w G4 H4 e4 s4 r4 q4 => ⟨dy, dw, m4, G4, q, r2.mono (e3.trans e4), r4, s4, q4, fun d m' v G' H' e5 s5 r5 q5 => hq d m' v G' H' (e13.trans (e4.trans e5)) s5 r5 q5⟩⟩
      | false => exact hq (.bl false) m3 _ G3 H3 e13 s3 (.bl false) q3⟩⟩⟩
theorem de_chain {op op' : CmpOp} {g g' : G2} (ho : OpR X (compareOp op) (low2 X.K g)) (ho' : OpR X (compareOp op') (low2 X.K g')) (ha : DE X W a ra) (hb : DE X W b rb) (hc : DE X W c rc)
    (hm : lastMarks [op, op'] [b, c] = false := by with_unfolding_all rfl) : DE X W (.Compare a [op, op'] [b, c] pos) (rChain g g' ra rb rc) := PE.imp (pe_chain ho ho' ha hb hc hm) lowChain
theorem dt_chain {op op' : CmpOp} {g g' : G2} (ho : OpR X (compareOp op) (low2 X.K g)) (ho' : OpR X (compareOp op') (low2 X.K g')) (ha : DE X W a ra) (hb : DE X W b rb) (hc : DE X W c rc)
    (hm : lastMarks [op, op'] [b, c] = false := by with_unfolding_all rfl) : DT X W (.Compare a [op, op'] [b, c] pos) (rTst (rChain g g' ra rb rc)) := PT.imp (pt_chain ho ho' ha hb hc hm) fun t H Q ⟨n, m, G, xd, q, hn, hs, hl, hr, hq⟩ =>
  lowChain t H (fun x H' => ∃ k, x = .bl k ∧ Q k H') ⟨n, m, G, xd, _, hn, hs, hl, hr, fun d m1 v G1 H1 e1 s1 r1 ⟨b, e, q1⟩ => by
    subst e
    cases r1
    exact ⟨b, rfl, hq b m1 G1 H1 e1 s1 q1⟩⟩

/-! ### arguments -/
def rNil : RA := fun _ _ m q => q [] m
def rCons (r : RE) (u : RA) : RA := fun xd n m q => r xd n m fun d m1 => u xd n m1 fun ds m2 => q (d :: ds) m2
theorem da_nil : DA X W [] rNil := PA.imp pa_nil fun t H Q ⟨n, m, G, xd, q, hn, hs, hl, hr, hq⟩ => hq [] m [] G H (Same.refl G) hs .nil hr
theorem da_cons {e : Expr} {es : List Expr} {r : RE} {u : RA} (ha : DE X W e r) (hb : DA X W es u) (hs : starEach (e :: es) X.env = (false, eval e X.env) :: starEach es X.env := by rfl) : DA X W (e :: es) (rCons r u) :=
  PA.imp (pa_cons ha hb hs) fun t H Q ⟨n, m, G, xd, q, hn, hs, hl, hr, hq⟩ =>
    ⟨n, m, G, xd, _, hn, hs, hl, hr, fun d m1 v G1 H1 e1 s1 r1 q1 => ⟨n, m1, G1, xd, _, hn.mono e1, s1, hl.mono e1, q1, fun ds m2 vs G2 H2 e2 s2 r2 q2 => hq (d :: ds) m2 (v :: vs) G2 H2 (e1.trans e2) s2 (.cons (r1.mono e2) r2) q2⟩⟩

/-! ### displays -/
def rTup (r : RA) : RE := fun xd n m q => r xd n m fun ds m1 => ds.length ≤ sizeLine ∧ q (.tup ds) m1
/-- a list that won't change; one that may -/
def rLst (r : RA) : RE := fun xd n m q => r xd n m fun ds m1 => ds.length ≤ sizeLine ∧ q (.lst ds) m1
def rLstO (r : RA) : RE := fun xd n m q => r xd n m fun ds m1 => ds.length ≤ sizeLine ∧ ∀ p, m1 p = none → q (.ref p) (mset m1 p (.lst ds))
variable {es : List Expr} {u : RA}
theorem de_tup {x1} (h : DA X W es u) : DE X W (.Tuple es x1 pos) (rTup u) := PE.imp (pe_tup h) fun t H Q ⟨n, m, G, xd, q, hn, hs, hl, hr, hq⟩ =>
  ⟨n, m, G, xd, _, hn, hs, hl, hr, fun ds m1 vs G1 H1 e1 s1 r1 ⟨hz, q1⟩ => ⟨by rw [← r1.length]; exact hz, fun p hp => by
    obtain ⟨s2, e2⟩ := s1.laid hp (.tup vs)
    exact hq (.tup ds) m1 (.ref p) _ _ (e1.trans e2) s2 (.tup upd_same (r1.mono e2)) q1⟩⟩
theorem de_lst (h : DA X W es u) : DE X W (.List es pos) (rLst u) := PE.imp (pe_lst h) fun t H Q ⟨n, m, G, xd, q, hn, hs, hl, hr, hq⟩ =>
  ⟨n, m, G, xd, _, hn, hs, hl, hr, fun ds m1 vs G1 H1 e1 s1 r1 ⟨hz, q1⟩ => ⟨by rw [← r1.length]; exact hz, fun p hp => by
    obtain ⟨s2, e2⟩ := s1.laid hp (.lst vs)
    exact hq (.lst ds) m1 (.ref p) _ _ (e1.trans e2) s2 (.lst upd_same (r1.mono e2)) q1⟩⟩
theorem de_lstO (h : DA X W es u) : DE X W (.List es pos) (rLstO u) := PE.imp (pe_lst h) fun t H Q ⟨n, m, G, xd, q, hn, hs, hl, hr, hq⟩ =>
  ⟨n, m, G, xd, _, hn, hs, hl, hr, fun ds m1 vs G1 H1 e1 s1 r1 ⟨hz, q1⟩ => ⟨by rw [← r1.length]; exact hz, fun p hp =>
    hq (.ref p) _ (.ref p) _ _ e1 (s1.alloc hp (.lst r1)) (.ref p) (q1 p (s1.freeM hp))⟩⟩

/-! ### calls of built-ins -/
abbrev GC := List D → Mem → QD → Prop
def lowC (K : PySem.W.Frag) (g : GC) : List V → Hp → VK → Prop := fun xs H Q => ∃ ds m G q, Reps K G ds xs ∧ Sep K G m H ∧ g ds m q ∧ lowQ K G q Q
def rCB (g : GC) (r : RA) : RE := fun xd n m q => r xd n m fun ds m1 => g ds m1 q
theorem lowCB {g : GC} {r : RA} : ∀ t H Q, lowE X.K W (rCB g r) t H Q → tCB (lowC X.K g) (lowA X.K W r) t H Q := fun t H Q ⟨n, m, G, xd, q, hn, hs, hl, hr, hq⟩ =>
  ⟨n, m, G, xd, _, hn, hs, hl, hr, fun ds m1 vs G1 H1 e1 s1 r1 q1 => ⟨ds, m1, G1, q, r1, s1, q1, fun d m' v G' H' e2 s2 r2 q2 => hq d m' v G' H' (e1.trans e2) s2 r2 q2⟩⟩
theorem de_callB {x : Str} {id : String} {e : Expr} {p : Pos} {g : GC} (hc : CallR X (.builtin id) (lowC X.K g)) (hg : Gl X x) (hm : X.mg x = none) (hv : bootBuiltins x = some (.builtin id)) (ha : DA X W (e :: es) u) (hn : x ≠ "__name__" := by decide) (hdb : (x == ("__debug__" : Str)) = false := by decide)
    (he : starEach (e :: es) X.env = (false, eval e X.env) :: starEach es X.env := by rfl) (hpl : (backTo pos (starEach es X.env)).any (·.1) = false := by rfl) : DE X W (.Call (.Name x p) (e :: es) [] pos) (rCB g u) := PE.imp (pe_callB hc hg hm hv ha hn hdb he hpl) lowCB
theorem de_callTy {x : Str} {T : String} {e : Expr} {p : Pos} {g : GC} (hc : CallR X (.type T) (lowC X.K g)) (hg : Gl X x) (hm : X.mg x = none) (hv : bootBuiltins x = some (.type T)) (ha : DA X W (e :: es) u) (hn : x ≠ "__name__" := by decide) (hdb : (x == ("__debug__" : Str)) = false := by decide)
    (he : starEach (e :: es) X.env = (false, eval e X.env) :: starEach es X.env := by rfl) (hpl : (backTo pos (starEach es X.env)).any (·.1) = false := by rfl) : DE X W (.Call (.Name x p) (e :: es) [] pos) (rCB g u) := PE.imp (pe_callTy hc hg hm hv ha hn hdb he hpl) lowCB
end
end DL

/-! DL3: operations on data -/
namespace DL
open PySem PySem.Spec PyProof.Rows L2

/-- the items of a list, whether it may change or not -/
def moLst : Option MO → Option (List D)
  | some (.lst ds) => some ds
  | _ => none
def lstOf : D → Mem → Option (List D)
  | .lst ds, _ => some ds
  | .ref p, m => moLst (m p)
  | _, _ => none
section
variable {K : PySem.W.Frag} {G H : Hp} {m : Mem}
theorem lst_at {x : D} {v : V} {ds : List D} (s : Sep K G m H) (r : Rep K G x v) (h : lstOf x m = some ds) : ∃ p vs, v = .ref p ∧ H p = some (.lst vs) ∧ Reps K G ds vs := by
  cases r with
  | lst e r =>
    simp only [lstOf, Option.some.injEq] at h
    subst h
    exact ⟨_, _, rfl, s.sub _ _ e, r⟩
  | ref a =>
    have h : moLst (m a) = some ds := h
    have e : m a = some (.lst ds) := by
      cases q : m a with
      | none => rw [q] at h; cases h
      | some o =>
        rw [q] at h
        cases o with
        | lst es =>
          have z : es = ds := Option.some.inj h
          rw [z]
        | _ => cases h
    obtain ⟨vs, e1, r1⟩ := s.lst e
    exact ⟨a, vs, rfl, e1, r1⟩
  | _ => simp [lstOf] at h
theorem Rep.lift {d : D} {v : V} (s : Sep K G m H) (r : Rep K G d v) : Rep K H d v := r.mono s.sub
theorem str_len (a : List Nat) : (⟨a.toArray⟩ : Str).length = a.length := by simp [Str.length]
theorem str_app (a b : List Nat) : (⟨a.toArray⟩ : Str) ++ (⟨b.toArray⟩ : Str) = ⟨(a ++ b).toArray⟩ := by
  show Str.append _ _ = _
  simp [Str.append]
theorem str_inj {a b : List Nat} : ((⟨a.toArray⟩ : Str) = ⟨b.toArray⟩) ↔ a = b := by
  constructor
  · intro h
    have := congrArg (fun s : Str => s.cps.toList) h
    simpa using this
  · intro h; rw [h]
end

section
variable {X : Cx}
theorem opN {f : Value → Value → Sem Value} {g : G2} (h : ∀ (pins : List (Addr × Obj)) (s : Shared) (σ : L2.St) (H G : Hp) (m : Mem) (dx dy : D) (x y : V) (v u : Value) (q : QD) (Q : VK), Inv X pins σ H s → RelV x v → RelV y u → Rep X.K G dx x → Rep X.K G dy y → Sep X.K G m H → g dx dy m q → lowQ X.K G q Q →
    wpAny (model X.prog X.w) X.A (f v u) (EP X pins σ Q) X.xe s) : OpR X f (low2 X.K g) := by
  intro pins s σ H x y v u Q I rx ry ⟨dx, dy, m, G, q, hx, hy, hs, hg, hq⟩
  exact h pins s σ H G m dx dy x y v u q Q I rx ry hx hy hs hg hq

/-! ### + - * // % ** -/
def gAdd : D → D → Mem → QD → Prop
  | .int i, .int j, m, q => q (.int (i + j)) m
  | .str a, .str b, m, q => a.length + b.length ≤ sizeLine ∧ q (.str (a ++ b)) m
  | x, y, m, q => ∃ a b, lstOf x m = some a ∧ lstOf y m = some b ∧ a.length + b.length ≤ sizeLine ∧ q (.lst (a ++ b)) m
theorem cat_ok {pins : List (Addr × Obj)} {s : Shared} {σ : L2.St} {H G : Hp} {m : Mem} {dx dy : D} {x y : V} {v u : Value} {q : QD} {Q : VK} (I : Inv X pins σ H s) (rx : RelV x v) (ry : RelV y u) (hx : Rep X.K G dx x) (hy : Rep X.K G dy y) (hs : Sep X.K G m H)
    (hg : ∃ a b, lstOf dx m = some a ∧ lstOf dy m = some b ∧ a.length + b.length ≤ sizeLine ∧ q (.lst (a ++ b)) m) (hq : lowQ X.K G q Q) : wpAny (model X.prog X.w) X.A (binaryOp .Add v u) (EP X pins σ Q) X.xe s := by
  obtain ⟨a, b, ea, eb, hz, k⟩ := hg
  obtain ⟨p, vs, rfl, hp, ra⟩ := lst_at hs hx ea
  obtain ⟨p', us, rfl, hp', rb⟩ := lst_at hs hy eb
  refine op_cat pins s σ H _ _ v u Q I rx ry ⟨p, p', vs, us, rfl, rfl, hp, hp', by rw [← ra.length, ← rb.length]; exact hz, fun l hl => ?_⟩
  obtain ⟨s2, e2⟩ := hs.laid hl (.lst (vs ++ us))
  exact hq _ m _ _ _ e2 s2 (.lst upd_same ((ra.append rb).mono e2)) k
theorem od_add : OpR X (binaryOp .Add) (low2 X.K gAdd) := opN fun pins s σ H G m dx dy x y v u q Q I rx ry hx hy hs hg hq => by
  cases dx with
  | int i =>
    cases dy with
    | int j =>
      cases hx; cases hy
      exact op_add pins s σ H _ _ v u Q I rx ry ⟨i, j, rfl, rfl, hq.here hs (.int _) hg⟩
    | _ => exact cat_ok I rx ry hx hy hs hg hq
  | str a =>
    cases dy with
    | str b =>
      cases hx; cases hy
      exact op_add_str pins s σ H _ _ v u Q I rx ry ⟨_, _, rfl, rfl, by rw [str_len, str_len]; exact hg.1, by rw [str_app]; exact hq.here hs (.str _) hg.2⟩
    | _ => exact cat_ok I rx ry hx hy hs hg hq
  | _ => cases dy <;> exact cat_ok I rx ry hx hy hs hg hq
def gI (C : Int → Int → Prop) (f : Int → Int → Int) : D → D → Mem → QD → Prop
  | .int i, .int j, m, q => C i j ∧ q (.int (f i j)) m
  | _, _, m, q => False
theorem odI {f : Value → Value → Sem Value} {C : Int → Int → Prop} {g : Int → Int → Int} (h : OpR X f (rI C fun i j => .int (g i j))) : OpR X f (low2 X.K (gI C g)) := opN fun pins s σ H G m dx dy x y v u q Q I rx ry hx hy hs hg hq => by
  cases dx with
  | int i =>
    cases dy with
    | int j =>
      cases hx; cases hy
      exact h pins s σ H _ _ v u Q I rx ry ⟨i, j, rfl, rfl, hg.1, hq.here hs (.int _) hg.2⟩
    | _ => exact False.elim hg
  | _ => cases dy <;> exact False.elim hg
def gSub : D → D → Mem → QD → Prop
  | .int i, .int j, m, q => q (.int (i - j)) m
  | _, _, m, q => False
theorem od_sub : OpR X (binaryOp .Sub) (low2 X.K gSub) := opN fun pins s σ H G m dx dy x y v u q Q I rx ry hx hy hs hg hq => by
  cases dx with
  | int i =>
    cases dy with
    | int j =>
      cases hx; cases hy
      exact op_sub pins s σ H _ _ v u Q I rx ry ⟨i, j, rfl, rfl, hq.here hs (.int _) hg⟩
    | _ => exact False.elim hg
  | _ => cases dy <;> exact False.elim hg
abbrev gFdiv : G2 := gI CDiv fun i j => i / j
abbrev gMod : G2 := gI (fun _ j => 0 < j) fun i j => i % j
abbrev gPow : G2 := gI CPow fun i j => i ^ j.toNat
theorem od_fdiv : OpR X (binaryOp .FloorDiv) (low2 X.K gFdiv) := odI op_fdiv
theorem od_mod : OpR X (binaryOp .Mod) (low2 X.K gMod) := odI op_mod
theorem od_pow : OpR X (binaryOp .Pow) (low2 X.K gPow) := odI op_pow
def reps (k : Int) {α : Type} (a : List α) : List α := (List.replicate k.toNat a).flatten
def gMul : D → D → Mem → QD → Prop
  | .int i, .int j, m, q => CMul i j ∧ q (.int (i * j)) m
  | .str a, .int k, m, q => (-(2 ^ 63) ≤ k ∧ k < 2 ^ 62 ∧ a.length * k.toNat ≤ sizeLine) ∧ q (.str (reps k a)) m
  | x, .int k, m, q => ∃ a, lstOf x m = some a ∧ (-(2 ^ 63) ≤ k ∧ k < 2 ^ 63 ∧ a.length * k.toNat ≤ sizeLine) ∧ q (.lst (reps k a)) m
  | _, _, m, q => False
theorem foldl_cps (a : List Nat) : ∀ (n : Nat) (acc : Array Nat), (List.replicate n a.toArray).foldl (· ++ ·) acc = acc ++ ((List.replicate n a).flatten).toArray
  | 0, acc => by simp
  | n + 1, acc => by
    rw [List.replicate_succ, List.foldl_cons, foldl_cps a n, List.replicate_succ, List.flatten_cons]
    simp
theorem mul_str_ok {pins : List (Addr × Obj)} {s : Shared} {σ : L2.St} {H : Hp} {a : List Nat} {k : Int} {t u : Tok} {Q : VK} (I : Inv X pins σ H s) (h1 : -(2 ^ 63) ≤ k) (h2 : k < 2 ^ 62) (hz : a.length * k.toNat ≤ sizeLine) (q : Q (.str ⟨(reps k a).toArray⟩) H) :
    wpAny (model X.prog X.w) X.A (binaryOp .Mult (.str ⟨a.toArray⟩ t) (.int k u)) (EP X pins σ Q) X.xe s := by
  have hl : (⟨a.toArray⟩ : Str).length = a.length := str_len a
  refine PySem.P.mul_str ?_ ?_ ?_ ?_
  · rw [decide_eq_false (by omega), decide_eq_false (by omega)] <;> rfl
  · intro h3 h4
    rw [hl]
    intro h5
    have hs : sizeLine = 16777216 := sizeLine_eq
    have e : (a.length : Int) * k ≤ 16777216 := by
      have e1 : k = ((k.toNat : Nat) : Int) := by omega
      rw [e1]
      have : ((a.length * k.toNat : Nat) : Int) ≤ 16777216 := by omega
      simpa using this
    have hk : 1 ≤ k := by omega
    have h6 : ((2 ^ 63 - 1) / k + 1) * k ≤ (a.length : Int) * k := Int.mul_le_mul_of_nonneg_right (by omega) (by omega)
    have h7 : (2 ^ 63 - 1 : Int) < ((2 ^ 63 - 1) / k + 1) * k := Int.lt_ediv_add_one_mul_self _ (by omega)
    have h8 : (2 ^ 63 - 1 : Int) < 16777216 := Int.lt_of_lt_of_le h7 (Int.le_trans h6 e)
    omega
  · intro _ _
    rw [hl]
    unfold Builtin.Str.tooLong
    exact decide_eq_false (by omega)
  · by_cases h3 : k < 1
    · rw [if_pos h3]
      refine ⟨by decide, ?_⟩
      have e : k.toNat = 0 := by omega
      refine ⟨.str Str.empty, H, I.tok _, ⟨_, rfl⟩, ?_⟩
      unfold reps at q
      rw [e] at q
      exact q
    · rw [if_neg h3]
      by_cases h4 : (k == 1 || (⟨a.toArray⟩ : Str).length == 0) = true
      · rw [if_pos h4]
        refine ⟨.str ⟨a.toArray⟩, H, I, ⟨_, rfl⟩, ?_⟩
        have e : reps k a = a := by
          rw [hl] at h4
          simp at h4
          unfold reps
          rcases h4 with h4 | h4
          · rw [h4]; simp
          · rw [h4]; simp
        rw [e] at q
        exact q
      · rw [if_neg h4]
        have e : (⟨(List.replicate k.toNat (⟨a.toArray⟩ : Str).cps).foldl (· ++ ·) #[]⟩ : Str) = ⟨(reps k a).toArray⟩ := by
          show (⟨(List.replicate k.toNat a.toArray).foldl (· ++ ·) #[]⟩ : Str) = _
          rw [foldl_cps]
          simp [reps]
        rw [e]
        refine ⟨?_, ⟨.str ⟨(reps k a).toArray⟩, H, I.tok _, ⟨_, rfl⟩, q⟩⟩
        rw [str_len]
        unfold reps
        rw [List.length_flatten]
        simp
        rw [Nat.mul_comm]
        exact hz
theorem rep_ok {pins : List (Addr × Obj)} {s : Shared} {σ : L2.St} {H G : Hp} {m : Mem} {dx : D} {k : Int} {x y : V} {v u : Value} {q : QD} {Q : VK} (I : Inv X pins σ H s) (rx : RelV x v) (ry : RelV y u) (hx : Rep X.K G dx x) (hy : Rep X.K G (.int k) y) (hs : Sep X.K G m H)
    (hg : ∃ a, lstOf dx m = some a ∧ (-(2 ^ 63) ≤ k ∧ k < 2 ^ 63 ∧ a.length * k.toNat ≤ sizeLine) ∧ q (.lst (reps k a)) m) (hq : lowQ X.K G q Q) : wpAny (model X.prog X.w) X.A (binaryOp .Mult v u) (EP X pins σ Q) X.xe s := by
  obtain ⟨a, ea, ⟨h1, h2, hz⟩, kk⟩ := hg
  obtain ⟨p, vs, rfl, hp, ra⟩ := lst_at hs hx ea
  cases hy
  refine op_rep pins s σ H _ _ v u Q I rx ry ⟨p, k, vs, rfl, rfl, hp, h1, h2, by rw [← ra.length]; exact hz, fun l hl => ?_⟩
  obtain ⟨s2, e2⟩ := hs.laid hl (.lst (List.replicate k.toNat vs).flatten)
  have rr : ∀ n : Nat, Reps X.K G (List.replicate n a).flatten (List.replicate n vs).flatten := by
    intro n
    induction n with
    | zero => exact .nil
    | succ n ih =>
      rw [List.replicate_succ, List.replicate_succ, List.flatten_cons, List.flatten_cons]
      exact ra.append ih
  exact hq _ m _ _ _ e2 s2 (.lst upd_same ((rr _).mono e2)) kk
theorem od_mul : OpR X (binaryOp .Mult) (low2 X.K gMul) := opN fun pins s σ H G m dx dy x y v u q Q I rx ry hx hy hs hg hq => by
  cases dy with
  | int j =>
    cases dx with
    | int i =>
      cases hx; cases hy
      exact op_mul pins s σ H _ _ v u Q I rx ry ⟨i, j, rfl, rfl, hg.1, hq.here hs (.int _) hg.2⟩
    | str a =>
      cases hx; cases hy
      obtain ⟨t, rfl⟩ := rx
      obtain ⟨t', rfl⟩ := ry
      exact mul_str_ok I hg.1.1 hg.1.2.1 hg.1.2.2 (hq.here hs (.str _) hg.2)
    | _ => exact rep_ok I rx ry hx hy hs hg hq
  | _ => cases dx <;> exact False.elim hg

/-! ### comparisons -/
def gCmp (p : Int → Int → Bool) (r : List Nat → List Nat → Bool) : D → D → Mem → QD → Prop
  | .int i, .int j, m, q => q (.bl (p i j)) m
  | .str a, .str b, m, q => q (.bl (r a b)) m
  | _, _, m, q => False
theorem odCmp {f : Value → Value → Sem Value} {p : Int → Int → Bool} {r : List Nat → List Nat → Bool} (h1 : OpR X f (rI0 fun i j => .bl (p i j))) (h2 : OpR X f (fun x y H Q => ∃ i j : Str, x = .str i ∧ y = .str j ∧ Q (.bl (r i.cps.toList j.cps.toList)) H)) : OpR X f (low2 X.K (gCmp p r)) :=
  opN fun pins s σ H G m dx dy x y v u q Q I rx ry hx hy hs hg hq => by
  cases dx with
  | int i =>
    cases dy with
    | int j =>
      cases hx; cases hy
      exact h1 pins s σ H _ _ v u Q I rx ry ⟨i, j, rfl, rfl, hq.here hs (.bl _) hg⟩
    | _ => exact False.elim hg
  | str a =>
    cases dy with
    | str b =>
      cases hx; cases hy
      exact h2 pins s σ H _ _ v u Q I rx ry ⟨_, _, rfl, rfl, by simpa using hq.here hs (.bl _) hg⟩
    | _ => exact False.elim hg
  | _ => cases dy <;> exact False.elim hg
abbrev gLt : G2 := gCmp (fun i j => decide (i < j)) fun a b => decide (a < b)
abbrev gLe : G2 := gCmp (fun i j => decide (i ≤ j)) fun a b => !decide (b < a)
abbrev gGt : G2 := gCmp (fun i j => decide (j < i)) fun a b => decide (b < a)
abbrev gGe : G2 := gCmp (fun i j => decide (j ≤ i)) fun a b => !decide (a < b)
theorem od_lt : OpR X (compareOp .Lt) (low2 X.K gLt) := odCmp op_lt op_lt_str
theorem od_le : OpR X (compareOp .LtE) (low2 X.K gLe) := odCmp op_le op_le_str
theorem od_gt : OpR X (compareOp .Gt) (low2 X.K gGt) := odCmp op_gt op_gt_str
theorem od_ge : OpR X (compareOp .GtE) (low2 X.K gGe) := odCmp op_ge op_ge_str
/-- == of data: scalars; plain data of any shape -/
def eqS : D → D → Option Bool
  | .int i, .int j => some (decide (i = j))
  | .str a, .str b => some (decide (a = b))
  | .bl a, .bl b => some (decide (a = b))
  | .non, .non => some true
  | .non, .int _ => some false
  | .int _, .non => some false
  | .non, .str _ => some false
  | .str _, .non => some false
  | .non, .bl _ => some false
  | .bl _, .non => some false
  | .int _, .str _ => some false
  | .str _, .int _ => some false
  | .bl _, .str _ => some false
  | .str _, .bl _ => some false
  | _, _ => none
/-- owned lists as trees, for a look -/
def moSeen (x : D) : Option MO → D
  | some (.lst ds) => .lst ds
  | _ => x
def seen : D → Mem → D
  | .ref p, m => moSeen (.ref p) (m p)
  | .non, _ => .non
  | .bl b, _ => .bl b
  | .int i, _ => .int i
  | .str a, _ => .str a
  | .ty n, _ => .ty n
  | .tup ds, _ => .tup ds
  | .lst ds, _ => .lst ds
  | .scr ns, _ => .scr ns
  | .ins C fs, _ => .ins C fs
  | .exc a c o n fs, _ => .exc a c o n fs
  | .dct t k, _ => .dct t k
def eqK (f : Bool → Bool) (x y : D) (m : Mem) (q : QD) : Option Bool → Prop
  | some b => q (.bl (f b)) m
  | none => fl 60 (seen x m) = true ∧ fl 60 (seen y m) = true ∧ q (.bl (f (eqD (seen x m) (seen y m)))) m
def gEqB (f : Bool → Bool) : G2 := fun x y m q => eqK f x y m q (eqS x y)
/-- == of dicts with int and text keys, where they hold the same scalars -/
def sca : D → Bool
  | .non => true
  | .bl _ => true
  | .int _ => true
  | .str _ => true
  | _ => false
def dctEq (t : Bool) (ks : List (D × D)) : D → Mem → QD → Prop
  | .dct u ls, m, q => t = false ∧ u = false ∧ ks = ls ∧ (ks.all fun p => sca p.2) = true ∧ (ks.map fun p => keyOf p.1).Nodup ∧ q (.bl true) m
  | _, _, _ => False
def gEq : D → D → Mem → QD → Prop
  | .dct t ks, y, m, q => dctEq t ks y m q
  | x, y, m, q => gEqB (fun b => b) x y m q
abbrev gNe : G2 := gEqB fun b => !b
theorem seen_rep {K : PySem.W.Frag} {G H : Hp} {m : Mem} {x : D} {v : V} (s : Sep K G m H) (r : Rep K G x v) : Rep K H (seen x m) v := by
  cases r with
  | ref a =>
    show Rep K H (moSeen (.ref a) (m a)) (.ref a)
    cases q : m a with
    | none => exact .ref a
    | some o =>
      cases o with
      | lst ds =>
        obtain ⟨vs, e1, r1⟩ := s.lst q
        exact .lst e1 (r1.mono s.sub)
      | _ => exact .ref a
  | non => exact .non
  | bl b => exact .bl b
  | int i => exact .int i
  | str c => exact .str c
  | ty n => exact .ty n
  | tup e r => exact (Rep.tup e r).mono s.sub
  | lst e r => exact (Rep.lst e r).mono s.sub
  | scr e => exact (Rep.scr e).mono s.sub
  | ins c e r => exact (Rep.ins c e r).mono s.sub
  | exc c e r => exact (Rep.exc c e r).mono s.sub
  | exc0 c => exact (Rep.exc0 c).mono s.sub
  | dK e r => exact (Rep.dK e r).mono s.sub
  | dT e z l n r => exact (Rep.dT e z l n r).mono s.sub
theorem eqS_ok {K : PySem.W.Frag} {G : Hp} {dx dy : D} {x y : V} {b : Bool} (hx : Rep K G dx x) (hy : Rep K G dy y) (h : eqS dx dy = some b) : scal x y = true ∧ decide (x = y) = b := by
  cases hx <;> cases hy <;> simp [eqS] at h <;> subst h <;> refine ⟨rfl, ?_⟩ <;> simp
  all_goals first
    | done
    | (rw [Bool.eq_iff_iff]; simp)
theorem odEqB (hu : X.A.units + 64 < cLine) : OpR X (compareOp .Eq) (low2 X.K (gEqB fun b => b)) := opN fun pins s σ H G m dx dy x y v u q Q I rx ry hx hy hs hg hq => by
  simp only [gEqB] at hg
  cases e : eqS dx dy with
  | some b =>
    rw [e] at hg
    obtain ⟨h1, h2⟩ := eqS_ok hx hy e
    exact op_eq pins s σ H x y v u Q I rx ry ⟨h1, by rw [h2]; exact hq.here hs (.bl _) hg⟩
  | none =>
    rw [e] at hg
    obtain ⟨f1, f2, k⟩ := hg
    exact op_eqD hu pins s σ H x y v u Q I rx ry ⟨_, _, (seen_rep hs hx).dp 60 f1, (seen_rep hs hy).dp 60 f2, fl_shaped f1 (by decide), fl_shaped f2 (by decide), hq.here hs (.bl _) k⟩
theorem valV_mem : ∀ {us : List (Key × V)} {p : Key × V}, (us.map (·.1)).Nodup → p ∈ us → valV us p.1 = some p.2
  | a :: us, p, hn, hp => by
    rw [List.map_cons, List.nodup_cons] at hn
    rcases List.mem_cons.mp hp with rfl | hp
    · exact valV_pos rfl
    · rw [valV_neg fun e => hn.1 (e ▸ List.mem_map_of_mem (f := (·.1)) hp)]
      exact valV_mem hn.2 hp
theorem nodup_some : ∀ {us : List (Key × V)}, (us.map fun p => some p.1).Nodup → (us.map (·.1)).Nodup
  | [], _ => List.nodup_nil
  | a :: us, h => by
    rw [List.map_cons, List.nodup_cons] at h ⊢
    refine ⟨fun z => h.1 ?_, nodup_some h.2⟩
    obtain ⟨b, hb, e⟩ := List.mem_map.mp z
    exact List.mem_map.mpr ⟨b, hb, by rw [e]⟩
theorem repK_same {K : PySem.W.Frag} {G : Hp} : ∀ {ks : List (D × D)} {us ws : List (Key × V)}, RepK K G ks us → RepK K G ks ws → (ks.all fun p => sca p.2) = true → us = ws
  | _, _, _, .nil, .nil, _ => rfl
  | _, _, _, .cons k1 r1 t1, .cons k2 r2 t2, h => by
    rw [List.all_cons, Bool.and_eq_true] at h
    have e1 := Option.some.inj (k1.symm.trans k2)
    subst e1
    rw [repK_same t1 t2 h.2]
    congr 2
    cases r1 <;> simp [sca] at h <;> cases r2 <;> rfl
theorem repK_len {K : PySem.W.Frag} {G : Hp} : ∀ {ks : List (D × D)} {us : List (Key × V)}, RepK K G ks us → ks.length = us.length
  | _, _, .nil => rfl
  | _, _, .cons _ _ t => by rw [List.length_cons, List.length_cons, repK_len t]
theorem repK_keys {K : PySem.W.Frag} {G : Hp} : ∀ {ks : List (D × D)} {us : List (Key × V)}, RepK K G ks us → ks.map (fun p => keyOf p.1) = us.map fun p => some p.1
  | _, _, .nil => rfl
  | _, _, .cons k _ t => by rw [List.map_cons, List.map_cons, repK_keys t, k]
theorem repK_sca {K : PySem.W.Frag} {G : Hp} : ∀ {ks : List (D × D)} {us : List (Key × V)}, RepK K G ks us → (ks.all fun p => sca p.2) = true → ∀ p ∈ us, flatB p.2 = true
  | _, _, .cons k r t, h, p, hp => by
    rw [List.all_cons, Bool.and_eq_true] at h
    rcases List.mem_cons.mp hp with rfl | hp
    · cases r <;> simp [sca] at h <;> rfl
    · exact repK_sca t h.2 p hp
theorem odEq (hu : X.A.units + 64 < cLine) : OpR X (compareOp .Eq) (low2 X.K gEq) := opN fun pins s σ H G m dx dy x y v u q Q I rx ry hx hy hs hg hq => by
  have fall : gEqB (fun b => b) dx dy m q → wpAny (model X.prog X.w) X.A (compareOp .Eq v u) (EP X pins σ Q) X.xe s := fun hg => odEqB hu pins s σ H x y v u Q I rx ry ⟨dx, dy, m, G, q, hx, hy, hs, hg, hq⟩
  cases dx with
  | dct t ks =>
    cases dy with
    | dct u ls =>
      obtain ⟨rfl, rfl, rfl, hsc, hnd, k⟩ := hg
      cases hx with
      | dK e1 r1 =>
        cases hy with
        | dK e2 r2 =>
          have e3 := repK_same r1 r2 hsc
          subst e3
          refine op_eqV hu pins s σ H _ _ v _ Q I rx ry ⟨1, by decide, .inr ⟨_, _, _, _, rfl, rfl, hs.sub _ _ e1, hs.sub _ _ e2, rfl, fun p hp => ?_⟩, hq.here hs (.bl _) k⟩
          refine ⟨p.2, ?_, ?_⟩
          · rw [repK_keys r1] at hnd
            exact valV_mem (nodup_some hnd) hp
          · exact .inl ⟨rfl, repK_sca r1 hsc p hp⟩
    | _ => exact False.elim hg
  | _ => exact fall hg
theorem odNe (hu : X.A.units + 64 < cLine) : OpR X (compareOp .NotEq) (low2 X.K gNe) := opN fun pins s σ H G m dx dy x y v u q Q I rx ry hx hy hs hg hq => by
  simp only [gEq, gNe, gEqB] at hg
  cases e : eqS dx dy with
  | some b =>
    rw [e] at hg
    obtain ⟨h1, h2⟩ := eqS_ok hx hy e
    exact op_ne pins s σ H x y v u Q I rx ry ⟨h1, by rw [h2]; exact hq.here hs (.bl _) hg⟩
  | none =>
    rw [e] at hg
    obtain ⟨f1, f2, k⟩ := hg
    exact op_neD hu pins s σ H x y v u Q I rx ry ⟨_, _, (seen_rep hs hx).dp 60 f1, (seen_rep hs hy).dp 60 f2, fl_shaped f1 (by decide), fl_shaped f2 (by decide), hq.here hs (.bl _) k⟩
/-- one sign in a text -/
def gInB (f : Bool → Bool) : D → D → Mem → QD → Prop
  | .str [c], .str z, m, q => q (.bl (f (decide (c ∈ z)))) m
  | _, _, m, q => False
abbrev gIn : G2 := gInB fun b => b
abbrev gNotIn : G2 := gInB fun b => !b
theorem od_in : OpR X (compareOp .In) (low2 X.K gIn) := opN fun pins s σ H G m dx dy x y v u q Q I rx ry hx hy hs hg hq => by
  unfold gIn gInB at hg
  split at hg
  · rename_i c z
    cases hx; cases hy
    exact op_in_sign pins s σ H _ _ v u Q I rx ry ⟨c, _, rfl, rfl, by simpa using hq.here hs (.bl _) hg⟩
  · exact False.elim hg
theorem od_notIn : OpR X (compareOp .NotIn) (low2 X.K gNotIn) := opN fun pins s σ H G m dx dy x y v u q Q I rx ry hx hy hs hg hq => by
  unfold gNotIn gInB at hg
  split at hg
  · rename_i c z
    cases hx; cases hy
    exact op_notIn_sign pins s σ H _ _ v u Q I rx ry ⟨c, _, rfl, rfl, by simpa using hq.here hs (.bl _) hg⟩
  · exact False.elim hg
def isNon : D → Bool
  | .non => true
  | _ => false
def gIsB (f : Bool → Bool) : D → D → Mem → QD → Prop
  | x, .non, m, q => q (.bl (f (isNon x))) m
  | .bl a, .bl b, m, q => q (.bl (f (decide (a = b)))) m
  | _, _, m, q => False
abbrev gIs : G2 := gIsB fun b => b
abbrev gIsNot : G2 := gIsB fun b => !b
theorem isNon_ok {K : PySem.W.Frag} {G : Hp} {d : D} {x : V} (h : Rep K G d x) : decide (x = .non) = isNon d := by
  cases h <;> simp [isNon]
theorem od_is : OpR X (compareOp .Is) (low2 X.K gIs) := opN fun pins s σ H G m dx dy x y v u q Q I rx ry hx hy hs hg hq => by
  unfold gIs gIsB at hg
  split at hg
  · cases hy
    exact op_isN pins s σ H _ _ v u Q I rx ry ⟨rfl, by rw [isNon_ok hx]; exact hq.here hs (.bl _) hg⟩
  · cases hx; cases hy
    exact op_isBl pins s σ H _ _ v u Q I rx ry ⟨_, _, rfl, rfl, hq.here hs (.bl _) hg⟩
  · exact False.elim hg
theorem od_isNot : OpR X (compareOp .IsNot) (low2 X.K gIsNot) := opN fun pins s σ H G m dx dy x y v u q Q I rx ry hx hy hs hg hq => by
  unfold gIsNot gIsB at hg
  split at hg
  · cases hy
    exact op_notN pins s σ H _ _ v u Q I rx ry ⟨rfl, by rw [isNon_ok hx]; exact hq.here hs (.bl _) hg⟩
  · cases hx; cases hy
    exact op_notBl pins s σ H _ _ v u Q I rx ry ⟨_, _, rfl, rfl, hq.here hs (.bl _) hg⟩
  · exact False.elim hg
end
end DL

/-! DL4: built-ins, methods, places, slices -/
namespace DL
open PySem PySem.Spec PyProof.Rows L2
section
variable {X : Cx} {W : WX}
theorem crN {f : Value} {g : GC} {r : List V → Hp → VK → Prop} (h : CallR X f r) (i : ∀ (H G : Hp) (m : Mem) (ds : List D) (vs : List V) (q : QD) (Q : VK), Reps X.K G ds vs → Sep X.K G m H → g ds m q → lowQ X.K G q Q → r vs H Q) : CallR X f (lowC X.K g) := by
  intro pins s σ H xs us Q I rv ⟨ds, m, G, q, hr, hs, hg, hq⟩
  exact h pins s σ H xs us Q I rv (i H G m ds xs q Q hr hs hg hq)
def gLen : List D → Mem → QD → Prop
  | [.str a], m, q => a.length ≤ sizeLine ∧ q (.int a.length) m
  | [.tup ds], m, q => q (.int ds.length) m
  | [.scr ns], m, q => q (.int ns.length) m
  | [x], m, q => ∃ ds, lstOf x m = some ds ∧ q (.int ds.length) m
  | _, m, q => False
theorem cd_len : CallR X (.builtin "len") (lowC X.K gLen) := crN call_len fun H G m ds vs q Q hr hs hg hq => by
  cases hr with
  | nil => exact False.elim hg
  | cons h r =>
    cases r with
    | cons _ _ => simp only [gLen] at hg
    | nil =>
      have fall : ∀ {x : D} {v : V}, Rep X.K G x v → (∃ ds, lstOf x m = some ds ∧ q (.int ds.length) m) → ∃ y n, [v] = [y] ∧ LenV X.K y H n ∧ Q (.int n) H := fun {x v} h ⟨ds, e, k⟩ => by
        obtain ⟨p, vs, rfl, hp, ra⟩ := lst_at hs h e
        exact ⟨_, ds.length, rfl, .inl ⟨vs, SqL.of hp, ra.length⟩, hq.here hs (.int _) k⟩
      cases h with
      | str a => exact ⟨_, a.length, rfl, ⟨by rw [str_len]; exact hg.1, (str_len a).symm⟩, hq.here hs (.int _) hg.2⟩
      | tup e r => exact ⟨_, _, rfl, .inr ⟨_, SqT.of (hs.sub _ _ e), r.length⟩, hq.here hs (.int _) hg⟩
      | scr e => exact ⟨_, _, rfl, .inl ⟨_, hs.sub.seq e, by simp⟩, hq.here hs (.int _) hg⟩
      | non => exact fall .non hg
      | bl b => exact fall (.bl b) hg
      | int i => exact fall (.int i) hg
      | ref a => exact fall (.ref a) hg
      | ty n => exact fall (.ty n) hg
      | lst e r => exact fall (.lst e r) hg
      | ins c e r => exact fall (.ins c e r) hg
      | exc c e r => exact fall (.exc c e r) hg
      | exc0 c => exact fall (.exc0 c) hg
      | dK e r => exact fall (.dK e r) hg
      | dT e z l n r => exact fall (.dT e z l n r) hg
def gAbs : List D → Mem → QD → Prop
  | [.int i], m, q => q (.int (if i < 0 then -i else i)) m
  | _, m, q => False
theorem cd_abs : CallR X (.builtin "abs") (lowC X.K gAbs) := crN call_abs fun H G m ds vs q Q hr hs hg hq => by
  unfold gAbs at hg
  split at hg
  · cases hr with
    | cons h r => cases r; cases h; exact ⟨_, rfl, hq.here hs (.int _) hg⟩
  · exact False.elim hg
def gInt : List D → Mem → QD → Prop
  | [.int i], m, q => q (.int i) m
  | [.bl b], m, q => q (.int (if b then 1 else 0)) m
  | [.str a], m, q => ∃ n, intText? ⟨a.toArray⟩ = some n ∧ a.length ≤ 640 ∧ q (.int n) m
  | _, m, q => False
theorem cd_int : CallR X (.type "int") (lowC X.K gInt) := crN (CallR.or call_int1 call_int_str) fun H G m ds vs q Q hr hs hg hq => by
  unfold gInt at hg
  split at hg
  · cases hr with
    | cons h r => cases r; cases h; exact .inl (.inl ⟨_, rfl, hq.here hs (.int _) hg⟩)
  · cases hr with
    | cons h r => cases r; cases h; exact .inl (.inr ⟨_, rfl, hq.here hs (.int _) hg⟩)
  · cases hr with
    | cons h r =>
      cases r; cases h
      obtain ⟨n, e, hz, k⟩ := hg
      exact .inr ⟨_, n, rfl, e, by rw [str_len]; exact hz, hq.here hs (.int _) k⟩
  · exact False.elim hg
/-- the signs of str(i) -/
def digs (i : Int) : List Nat := ((toString i : String) : Str).cps.toList
def gStr : List D → Mem → QD → Prop
  | [.int i], m, q => i.natAbs.log2 < 1920 ∧ q (.str (digs i)) m
  | _, m, q => False
theorem cd_str : CallR X (.type "str") (lowC X.K gStr) := crN call_str_int fun H G m ds vs q Q hr hs hg hq => by
  unfold gStr at hg
  split at hg
  · cases hr with
    | cons h r =>
      cases r; cases h
      refine ⟨_, rfl, hg.1, ?_⟩
      have := hq.here hs (Rep.str (digs _)) hg.2
      unfold digs at this
      rw [str_eta] at this
      exact this
  · exact False.elim hg
def gMax2 : List D → Mem → QD → Prop
  | [.int i, .int j], m, q => q (.int (if j > i then j else i)) m
  | _, m, q => False
theorem cd_max2 (hc : X.calm = true) : CallR X (.builtin "max") (lowC X.K gMax2) := crN (call_max2 hc) fun H G m ds vs q Q hr hs hg hq => by
  unfold gMax2 at hg
  split at hg
  · cases hr with
    | cons h r =>
      cases r with
      | cons h' r => cases r; cases h; cases h'; exact ⟨_, _, rfl, hq.here hs (.int _) hg⟩
  · exact False.elim hg
def gMin2 : List D → Mem → QD → Prop
  | [.int i, .int j], m, q => q (.int (if j < i then j else i)) m
  | _, m, q => False
theorem cd_min2 (hc : X.calm = true) : CallR X (.builtin "min") (lowC X.K gMin2) := crN (call_min2 hc) fun H G m ds vs q Q hr hs hg hq => by
  unfold gMin2 at hg
  split at hg
  · cases hr with
    | cons h r =>
      cases r with
      | cons h' r => cases r; cases h; cases h'; exact ⟨_, _, rfl, hq.here hs (.int _) hg⟩
  · exact False.elim hg
def bls : List D → Option (List Bool)
  | [] => some []
  | .bl b :: r => (bls r).map (b :: ·)
  | _ :: _ => none
theorem bls_ok : ∀ {ds : List D} {bs : List Bool}, bls ds = some bs → ds = bs.map D.bl
  | [], bs, h => by
    simp only [bls, Option.some.injEq] at h
    subst h
    rfl
  | .bl b :: r, bs, h => by
    simp only [bls, Option.map_eq_some_iff] at h
    obtain ⟨cs, e, rfl⟩ := h
    rw [bls_ok e]
    rfl
  | .non :: _, _, h => by simp [bls] at h
  | .int _ :: _, _, h => by simp [bls] at h
  | .str _ :: _, _, h => by simp [bls] at h
  | .ref _ :: _, _, h => by simp [bls] at h
  | .ty _ :: _, _, h => by simp [bls] at h
  | .tup _ :: _, _, h => by simp [bls] at h
  | .lst _ :: _, _, h => by simp [bls] at h
  | .scr _ :: _, _, h => by simp [bls] at h
  | .ins _ _ :: _, _, h => by simp [bls] at h
  | .exc _ _ _ _ _ :: _, _, h => by simp [bls] at h
  | .dct _ _ :: _, _, h => by simp [bls] at h
theorem bls_map : ∀ bs : List Bool, bls (bs.map D.bl) = some bs
  | [] => rfl
  | b :: r => by rw [List.map_cons, bls, bls_map r]; rfl
def gAll : List D → Mem → QD → Prop
  | [x], m, q => ∃ ds bs, lstOf x m = some ds ∧ bls ds = some bs ∧ q (.bl (bs.all id)) m
  | _, m, q => False
def gAny : List D → Mem → QD → Prop
  | [x], m, q => ∃ ds bs, lstOf x m = some ds ∧ bls ds = some bs ∧ q (.bl (bs.any id)) m
  | _, m, q => False
theorem cd_all (hc : X.calm = true) : CallR X (.builtin "all") (lowC X.K gAll) := crN (cr_all hc) fun H G m ds vs q Q hr hs hg hq => by
  unfold gAll at hg
  split at hg
  · cases hr with
    | cons h r =>
      cases r
      obtain ⟨ds, bs, e1, e2, k⟩ := hg
      obtain ⟨p, vs, rfl, hp, ra⟩ := lst_at hs h e1
      rw [bls_ok e2] at ra
      have e3 := ra.bls
      subst e3
      exact ⟨p, bs, rfl, SqL.of hp, hq.here hs (.bl _) k⟩
  · exact False.elim hg
theorem cd_any (hc : X.calm = true) : CallR X (.builtin "any") (lowC X.K gAny) := crN (cr_any hc) fun H G m ds vs q Q hr hs hg hq => by
  unfold gAny at hg
  split at hg
  · cases hr with
    | cons h r =>
      cases r
      obtain ⟨ds, bs, e1, e2, k⟩ := hg
      obtain ⟨p, vs, rfl, hp, ra⟩ := lst_at hs h e1
      rw [bls_ok e2] at ra
      have e3 := ra.bls
      subst e3
      exact ⟨p, bs, rfl, SqL.of hp, hq.here hs (.bl _) k⟩
  · exact False.elim hg
/-- what list(x) and tuple(x) read -/
def seqOf : D → Mem → Option (List D)
  | .tup ds, _ => some ds
  | .scr ns, _ => some (ns.map D.int)
  | x, m => lstOf x m
theorem seq_at {K : PySem.W.Frag} {G H : Hp} {m : Mem} {x : D} {v : V} {ds : List D} (s : Sep K G m H) (r : Rep K G x v) (h : seqOf x m = some ds) : ∃ p vs, v = .ref p ∧ (SqL K H p vs ∨ SqT K H p vs) ∧ Reps K G ds vs := by
  have fall : ∀ {x : D} {v : V}, Rep K G x v → lstOf x m = some ds → ∃ p vs, v = .ref p ∧ (SqL K H p vs ∨ SqT K H p vs) ∧ Reps K G ds vs := fun {x v} h e => by
    obtain ⟨p, vs, rfl, hp, ra⟩ := lst_at s h e
    exact ⟨p, vs, rfl, .inl (SqL.of hp), ra⟩
  cases r with
  | tup e r =>
    simp only [seqOf, Option.some.injEq] at h
    subst h
    exact ⟨_, _, rfl, .inr (SqT.of (s.sub _ _ e)), r⟩
  | scr e =>
    simp only [seqOf, Option.some.injEq] at h
    subst h
    exact ⟨_, _, rfl, .inl (s.sub.seq e), Reps.ofInts _⟩
  | non => exact fall .non h
  | bl b => exact fall (.bl b) h
  | int i => exact fall (.int i) h
  | str a => exact fall (.str a) h
  | ref a => exact fall (.ref a) h
  | ty n => exact fall (.ty n) h
  | lst e r => exact fall (.lst e r) h
  | ins c e r => exact fall (.ins c e r) h
  | exc c e r => exact fall (.exc c e r) h
  | exc0 c => exact fall (.exc0 c) h
  | dK e r => exact fall (.dK e r) h
  | dT e z l n r => exact fall (.dT e z l n r) h
/-- list(x): won't change; may change -/
def gList : List D → Mem → QD → Prop
  | [x], m, q => ∃ ds, seqOf x m = some ds ∧ q (.lst ds) m
  | _, m, q => False
def gListO : List D → Mem → QD → Prop
  | [x], m, q => ∃ ds, seqOf x m = some ds ∧ ∀ p, m p = none → q (.ref p) (mset m p (.lst ds))
  | _, m, q => False
theorem cd_list : CallR X (.type "list") (lowC X.K gList) := crN call_list_of fun H G m ds vs q Q hr hs hg hq => by
  unfold gList at hg
  split at hg
  · cases hr with
    | cons h r =>
      cases r
      obtain ⟨ds, e1, k⟩ := hg
      obtain ⟨p, vs, rfl, hp, ra⟩ := seq_at hs h e1
      refine ⟨p, vs, rfl, hp, fun l hl => ?_⟩
      obtain ⟨s2, e2⟩ := hs.laid hl (.lst vs)
      exact hq _ m _ _ _ e2 s2 (.lst upd_same (ra.mono e2)) k
  · exact False.elim hg
theorem cd_listO : CallR X (.type "list") (lowC X.K gListO) := crN call_list_of fun H G m ds vs q Q hr hs hg hq => by
  unfold gListO at hg
  split at hg
  · cases hr with
    | cons h r =>
      cases r
      obtain ⟨ds, e1, k⟩ := hg
      obtain ⟨p, vs, rfl, hp, ra⟩ := seq_at hs h e1
      exact ⟨p, vs, rfl, hp, fun l hl => hq _ _ _ _ _ (Same.refl _) (hs.alloc hl (.lst ra)) (.ref l) (k l (hs.freeM hl))⟩
  · exact False.elim hg
def gTuple : List D → Mem → QD → Prop
  | [.tup ds], m, q => q (.tup ds) m
  | [x], m, q => ∃ ds, lstOf x m = some ds ∧ q (.tup ds) m
  | _, m, q => False
theorem cd_tuple : CallR X (.type "tuple") (lowC X.K gTuple) := crN call_tuple_of fun H G m ds vs q Q hr hs hg hq => by
  cases hr with
  | nil => exact False.elim hg
  | cons h r =>
    cases r with
    | cons _ _ => simp only [gTuple] at hg
    | nil =>
      have fall : ∀ {x : D} {v : V}, Rep X.K G x v → (∃ ds, lstOf x m = some ds ∧ q (.tup ds) m) → ∃ p ys, [v] = [.ref p] ∧ ((SqL X.K H p ys ∧ ∀ l, H l = none → Q (.ref l) (upd H l (.tup ys))) ∨ (SqT X.K H p ys ∧ Q (.ref p) H)) := fun {x v} h ⟨ds, e, k⟩ => by
        obtain ⟨p, vs, rfl, hp, ra⟩ := lst_at hs h e
        refine ⟨p, vs, rfl, .inl ⟨SqL.of hp, fun l hl => ?_⟩⟩
        obtain ⟨s2, e2⟩ := hs.laid hl (.tup vs)
        exact hq _ m _ _ _ e2 s2 (.tup upd_same (ra.mono e2)) k
      cases h with
      | tup e r => exact ⟨_, _, rfl, .inr ⟨SqT.of (hs.sub _ _ e), hq.here hs (.tup e r) hg⟩⟩
      | str a => exact fall (.str a) hg
      | scr e => exact fall (.scr e) hg
      | non => exact fall .non hg
      | bl b => exact fall (.bl b) hg
      | int i => exact fall (.int i) hg
      | ref a => exact fall (.ref a) hg
      | ty n => exact fall (.ty n) hg
      | lst e r => exact fall (.lst e r) hg
      | ins c e r => exact fall (.ins c e r) hg
      | exc c e r => exact fall (.exc c e r) hg
      | exc0 c => exact fall (.exc0 c) hg
      | dK e r => exact fall (.dK e r) hg
      | dT e z l n r => exact fall (.dT e z l n r) hg

/-! ### methods -/
abbrev GM := D → List D → Mem → QD → Prop
def lowM (K : PySem.W.Frag) (g : GM) : V → List V → Hp → VK → Prop := fun x xs H Q => ∃ d ds m G q, Rep K G d x ∧ Reps K G ds xs ∧ Sep K G m H ∧ g d ds m q ∧ lowQ K G q Q
theorem mtN {id : String} {g : GM} {r : V → List V → Hp → VK → Prop} (h : MtR X id r) (i : ∀ (H G : Hp) (m : Mem) (d : D) (v : V) (ds : List D) (vs : List V) (q : QD) (Q : VK), Rep X.K G d v → Reps X.K G ds vs → Sep X.K G m H → g d ds m q → lowQ X.K G q Q → r v vs H Q) : MtR X id (lowM X.K g) := by
  intro pins s σ H x xs v us Q I rx rv ⟨d, ds, m, G, q, hd, hr, hs, hg, hq⟩
  exact h pins s σ H x xs v us Q I rx rv (i H G m d x ds xs q Q hd hr hs hg hq)
/-- o.name(args) of a list, of a text -/
def rLM (g : GM) (ro : RE) (ra : RA) : RE := fun xd n m q => ro xd n m fun x m1 => (∃ ds, lstOf x m1 = some ds) ∧ ra xd n m1 fun ds m2 => g x ds m2 q
def rSM (g : GM) (ro : RE) (ra : RA) : RE := fun xd n m q => ro xd n m fun x m1 => (∃ cs, x = .str cs) ∧ ra xd n m1 fun ds m2 => g x ds m2 q
variable {o e : Expr} {es : List Expr} {ro : RE} {ra : RA} {apos cpos : Pos} {name : Str} {id : String} {g : GM}
theorem de_lm (slot : Slot "list" name id) (hty : typeOf (.builtin id) = pure (.type "method_descriptor")) (hm : MtR X id (lowM X.K g)) (ho : DE X W o ro) (ha : DA X W (e :: es) ra)
    (hbase : attributeBase o name X.env (eval o X.env) = eval o X.env := by rfl)
    (hfew : ((backTo cpos (starEach (e :: es) X.env)).all (fun x => !x.1) && (backToKw cpos (keywordEach [] X.env)).all (fun x => x.1.isSome)
      && decide ((e :: es).length + ([] : List Keyword).length + (if ([] : List Keyword).isEmpty then 0 else 1) < 30)) = true := by rfl)
    (hline : (apos.endLine == cpos.line) = true := by rfl) (hs : starEach (e :: es) X.env = (false, eval e X.env) :: starEach es X.env := by rfl) (hplain : (backTo cpos (starEach es X.env)).any (·.1) = false := by rfl) :
    DE X W (.Call (.Attribute o name apos) (e :: es) [] cpos) (rLM g ro ra) :=
  PE.imp (pe_bm PySem.F.plainAttrs_list slot hty hm ho ha hbase hfew hline hs hplain) fun t H Q ⟨n, m, G, xd, q, hn, hs, hl, hr, hq⟩ =>
    ⟨n, m, G, xd, _, hn, hs, hl, hr, fun d m1 v G1 H1 e1 s1 r1 ⟨⟨ds, ed⟩, q1⟩ => ⟨by
      obtain ⟨p, vs, rfl, hp, _⟩ := lst_at s1 r1 ed
      exact .inl ⟨rfl, vs, SqL.of hp⟩, n, m1, G1, xd, _, hn.mono e1, s1, hl.mono e1, q1, fun ds m2 vs G2 H2 e2 s2 r2 q2 => ⟨d, ds, m2, G2, q, r1.mono e2, r2, s2, q2, fun d m' v G' H' e3 s3 r3 q3 => hq d m' v G' H' (e1.trans (e2.trans e3)) s3 r3 q3⟩⟩⟩
theorem de_lm0 (slot : Slot "list" name id) (hty : typeOf (.builtin id) = pure (.type "method_descriptor")) (hm : MtR X id (lowM X.K g)) (ho : DE X W o ro)
    (hbase : attributeBase o name X.env (eval o X.env) = eval o X.env := by rfl) (hline : (apos.endLine == cpos.line) = true := by rfl) : DE X W (.Call (.Attribute o name apos) [] [] cpos) (rLM g ro rNil) :=
  PE.imp (pe_bm0 PySem.F.plainAttrs_list slot hty hm ho hbase hline) fun t H Q ⟨n, m, G, xd, q, hn, hs, hl, hr, hq⟩ =>
    ⟨n, m, G, xd, _, hn, hs, hl, hr, fun d m1 v G1 H1 e1 s1 r1 ⟨⟨ds, ed⟩, q1⟩ => ⟨by
      obtain ⟨p, vs, rfl, hp, _⟩ := lst_at s1 r1 ed
      exact .inl ⟨rfl, vs, SqL.of hp⟩, ⟨d, [], m1, G1, q, r1, .nil, s1, q1, fun d m' v G' H' e3 s3 r3 q3 => hq d m' v G' H' (e1.trans e3) s3 r3 q3⟩⟩⟩
theorem de_sm (slot : Slot "str" name id) (hty : typeOf (.builtin id) = pure (.type "method_descriptor")) (hm : MtR X id (lowM X.K g)) (ho : DE X W o ro) (ha : DA X W (e :: es) ra)
    (hbase : attributeBase o name X.env (eval o X.env) = eval o X.env := by rfl)
    (hfew : ((backTo cpos (starEach (e :: es) X.env)).all (fun x => !x.1) && (backToKw cpos (keywordEach [] X.env)).all (fun x => x.1.isSome)
      && decide ((e :: es).length + ([] : List Keyword).length + (if ([] : List Keyword).isEmpty then 0 else 1) < 30)) = true := by rfl)
    (hline : (apos.endLine == cpos.line) = true := by rfl) (hs : starEach (e :: es) X.env = (false, eval e X.env) :: starEach es X.env := by rfl) (hplain : (backTo cpos (starEach es X.env)).any (·.1) = false := by rfl) :
    DE X W (.Call (.Attribute o name apos) (e :: es) [] cpos) (rSM g ro ra) :=
  PE.imp (pe_bm PySem.F.plainAttrs_str slot hty hm ho ha hbase hfew hline hs hplain) fun t H Q ⟨n, m, G, xd, q, hn, hs, hl, hr, hq⟩ =>
    ⟨n, m, G, xd, _, hn, hs, hl, hr, fun d m1 v G1 H1 e1 s1 r1 ⟨⟨ds, ed⟩, q1⟩ => ⟨by
      subst ed
      cases r1
      rfl, n, m1, G1, xd, _, hn.mono e1, s1, hl.mono e1, q1, fun ds m2 vs G2 H2 e2 s2 r2 q2 => ⟨d, ds, m2, G2, q, r1.mono e2, r2, s2, q2, fun d m' v G' H' e3 s3 r3 q3 => hq d m' v G' H' (e1.trans (e2.trans e3)) s3 r3 q3⟩⟩⟩
/-- an object of one's own, changed -/
def gAppend : GM := fun x ds m q => ∃ a xs y, x = .ref a ∧ ds = [y] ∧ m a = some (.lst xs) ∧ xs.length < sizeLine ∧ q .non (mset m a (.lst (xs ++ [y])))
theorem md_append : MtR X "list.append" (lowM X.K gAppend) := mtN mt_append fun H G m d v ds vs q Q hd hr hs hg hq => by
  obtain ⟨a, xs, y, rfl, rfl, e, hz, k⟩ := hg
  cases hd
  cases hr with
  | cons h r =>
    cases r
    obtain ⟨vs, e1, r1⟩ := hs.lst e
    exact ⟨a, vs, _, rfl, rfl, e1, by rw [← r1.length]; exact hz, hq .non _ .non G _ (Same.refl G) (hs.write e (.lst (r1.append (.cons h .nil)))) .non k⟩
def gPop : GM := fun x ds m q => ∃ a xs y, x = .ref a ∧ ds = [] ∧ m a = some (.lst xs) ∧ xs[xs.length - 1]? = some y ∧ q y (mset m a (.lst xs.dropLast))
theorem md_pop : MtR X "list.pop" (lowM X.K gPop) := mtN mt_pop fun H G m d v ds vs q Q hd hr hs hg hq => by
  obtain ⟨a, xs, y, rfl, rfl, e, hz, k⟩ := hg
  cases hd
  cases hr
  obtain ⟨vs, e1, r1⟩ := hs.lst e
  obtain ⟨v, e2, r2⟩ := r1.get hz
  exact ⟨a, vs, v, rfl, rfl, e1, by rw [← r1.length]; exact e2, hq y _ v G _ (Same.refl G) (hs.write e (.lst r1.dropLast)) r2 k⟩
def gPopAt : GM := fun x ds m q => ∃ a xs i k y, x = .ref a ∧ ds = [.int i] ∧ m a = some (.lst xs) ∧ -(2 ^ 63) ≤ i ∧ i < 2 ^ 63 ∧ seqIndex? i xs.length = some k ∧ xs[k]? = some y ∧ q y (mset m a (.lst (xs.eraseIdx k)))
theorem md_popAt : MtR X "list.pop" (lowM X.K gPopAt) := mtN mt_popAt fun H G m d v ds vs q Q hd hr hs hg hq => by
  obtain ⟨a, xs, i, j, y, rfl, rfl, e, h1, h2, h3, hz, k⟩ := hg
  cases hd
  cases hr with
  | cons h r =>
    cases r
    cases h
    obtain ⟨vs, e1, r1⟩ := hs.lst e
    obtain ⟨v, e2, r2⟩ := r1.get hz
    exact ⟨a, vs, i, j, v, rfl, rfl, e1, h1, h2, by rw [← r1.length]; exact h3, e2, hq y _ v G _ (Same.refl G) (hs.write e (.lst (r1.eraseIdx j))) r2 k⟩
def gClear : GM := fun x ds m q => ∃ a xs, x = .ref a ∧ ds = [] ∧ m a = some (.lst xs) ∧ q .non (mset m a (.lst []))
theorem md_clear : MtR X "list.clear" (lowM X.K gClear) := mtN mt_clear fun H G m d v ds vs q Q hd hr hs hg hq => by
  obtain ⟨a, xs, rfl, rfl, e, k⟩ := hg
  cases hd
  cases hr
  obtain ⟨vs, e1, r1⟩ := hs.lst e
  exact ⟨a, vs, rfl, rfl, e1, hq .non _ .non G _ (Same.refl G) (hs.write e (.lst .nil)) .non k⟩
def gReverse : GM := fun x ds m q => ∃ a xs, x = .ref a ∧ ds = [] ∧ m a = some (.lst xs) ∧ q .non (mset m a (.lst xs.reverse))
theorem md_reverse : MtR X "list.reverse" (lowM X.K gReverse) := mtN mt_reverse fun H G m d v ds vs q Q hd hr hs hg hq => by
  obtain ⟨a, xs, rfl, rfl, e, k⟩ := hg
  cases hd
  cases hr
  obtain ⟨vs, e1, r1⟩ := hs.lst e
  exact ⟨a, vs, rfl, rfl, e1, hq .non _ .non G _ (Same.refl G) (hs.write e (.lst r1.reverse)) .non k⟩
def gExtend : GM := fun x ds m q => ∃ a xs y zs, x = .ref a ∧ ds = [y] ∧ m a = some (.lst xs) ∧ lstOf y m = some zs ∧ xs.length + zs.length ≤ sizeLine ∧ q .non (mset m a (.lst (xs ++ zs)))
theorem md_extend : MtR X "list.extend" (lowM X.K gExtend) := mtN mt_extend fun H G m d v ds vs q Q hd hr hs hg hq => by
  obtain ⟨a, xs, y, zs, rfl, rfl, e, ez, hz, k⟩ := hg
  cases hd
  cases hr with
  | cons h r =>
    cases r
    obtain ⟨vs, e1, r1⟩ := hs.lst e
    obtain ⟨p, us, rfl, hp, r2⟩ := lst_at hs h ez
    exact ⟨a, p, vs, us, rfl, rfl, e1, hp, by rw [← r1.length, ← r2.length]; exact hz, hq .non _ .non G _ (Same.refl G) (hs.write e (.lst (r1.append r2))) .non k⟩
/-- texts -/
def txts : List D → Option (List (List Nat))
  | [] => some []
  | .str b :: r => (txts r).map (b :: ·)
  | _ :: _ => none
theorem strs_ok : ∀ {ds : List D} {bs : List (List Nat)}, txts ds = some bs → ds = bs.map D.str
  | [], bs, h => by
    simp only [txts, Option.some.injEq] at h
    subst h
    rfl
  | .str b :: r, bs, h => by
    simp only [txts, Option.map_eq_some_iff] at h
    obtain ⟨cs, e, rfl⟩ := h
    rw [strs_ok e]
    rfl
  | .non :: _, _, h => by simp [txts] at h
  | .int _ :: _, _, h => by simp [txts] at h
  | .bl _ :: _, _, h => by simp [txts] at h
  | .ref _ :: _, _, h => by simp [txts] at h
  | .ty _ :: _, _, h => by simp [txts] at h
  | .tup _ :: _, _, h => by simp [txts] at h
  | .lst _ :: _, _, h => by simp [txts] at h
  | .scr _ :: _, _, h => by simp [txts] at h
  | .ins _ _ :: _, _, h => by simp [txts] at h
  | .exc _ _ _ _ _ :: _, _, h => by simp [txts] at h
  | .dct _ _ :: _, _, h => by simp [txts] at h
theorem strs_map : ∀ bs : List (List Nat), txts (bs.map D.str) = some bs
  | [] => rfl
  | b :: r => by rw [List.map_cons, txts, strs_map r]; rfl
abbrev ofC (a : List Nat) : Str := ⟨a.toArray⟩
def joinC (a : List Nat) (ys : List (List Nat)) : List Nat := (Txt.join (ofC a) (ys.map ofC)).cps.toList
def gJoin : GM := fun x ds m q => ∃ a y zs ys, x = .str a ∧ ds = [y] ∧ seqOf y m = some zs ∧ txts zs = some ys ∧ (ys.map (·.length)).sum + ys.length * a.length ≤ 16777216 ∧ q (.str (joinC a ys)) m
theorem md_join : MtR X "str.join" (lowM X.K gJoin) := mtN mt_join fun H G m d v ds vs q Q hd hr hs hg hq => by
  obtain ⟨a, y, zs, ys, rfl, rfl, e1, e2, hz, k⟩ := hg
  cases hd
  cases hr with
  | cons h r =>
    cases r
    obtain ⟨p, vs, rfl, hp, r2⟩ := seq_at hs h e1
    rw [strs_ok e2] at r2
    have e3 := r2.strs
    subst e3
    refine ⟨ofC a, p, ys.map ofC, rfl, rfl, ?_, ?_, ?_⟩
    · rw [List.map_map]
      exact hp
    · rw [List.map_map, List.length_map, str_len]
      have : (ys.map (Str.length ∘ ofC)) = ys.map (·.length) := List.map_congr_left fun z _ => str_len z
      have e4 : ys.map ((fun x => x.length) ∘ ofC) = ys.map (·.length) := this
      rw [e4]
      exact hz
    · have := hq.here hs (Rep.str (joinC a ys)) k
      unfold joinC at this
      rw [str_eta] at this
      exact this
def splitC (a b : List Nat) : List (List Nat) := (Txt.split (ofC a) (ofC b)).map fun z => z.cps.toList
def gSplit : GM := fun x ds m q => ∃ a b, x = .str a ∧ ds = [.str b] ∧ b ≠ [] ∧ a.length + 2 ≤ sizeLine ∧ q (.lst ((splitC a b).map D.str)) m
theorem Reps.ofStrs {K : PySem.W.Frag} {H : Hp} : ∀ (zs : List Str), Reps K H (zs.map fun z => D.str z.cps.toList) (zs.map V.str)
  | [] => .nil
  | z :: zs => .cons (by
    have := Rep.str (K := K) (H := H) z.cps.toList
    rw [str_eta] at this
    exact this) (Reps.ofStrs zs)
theorem md_split : MtR X "str.split" (lowM X.K gSplit) := mtN mt_split fun H G m d v ds vs q Q hd hr hs hg hq => by
  obtain ⟨a, b, rfl, rfl, hb, hz, k⟩ := hg
  cases hd
  cases hr with
  | cons h r =>
    cases r
    cases h
    refine ⟨ofC a, ofC b, rfl, rfl, ?_, by rw [str_len]; exact hz, fun l hl => ?_⟩
    · rw [str_len]
      cases b with
      | nil => exact absurd rfl hb
      | cons _ _ => rfl
    · obtain ⟨s2, e2⟩ := hs.laid hl (.lst ((Txt.split (ofC a) (ofC b)).map V.str))
      refine hq _ m _ _ _ e2 s2 (.lst upd_same ?_) k
      unfold splitC
      rw [List.map_map]
      exact Reps.ofStrs _

/-! ### places, slices -/
theorem atI_rep {K : PySem.W.Frag} {G : Hp} {ds : List D} {vs : List V} {i : Int} {d : D} (r : Reps K G ds vs) (h : atI ds i = some d) : ∃ v, atI vs i = some v ∧ Rep K G d v := by
  unfold atI at h ⊢
  rw [← r.length]
  cases e : ixN ds.length i with
  | none => rw [e] at h; cases h
  | some j =>
    rw [e] at h
    obtain ⟨v, e2, r2⟩ := r.get (show ds[j]? = some d from h)
    exact ⟨v, e2, r2⟩
def gIx : D → D → Mem → QD → Prop
  | .str a, .int i, m, q => a.length ≤ sizeLine ∧ ∃ c, atI a i = some c ∧ q (.str [c]) m
  | .tup ds, .int i, m, q => ∃ d, atI ds i = some d ∧ q d m
  | x, .int i, m, q => ∃ ds d, lstOf x m = some ds ∧ atI ds i = some d ∧ q d m
  | _, _, m, q => False
def lowIx (K : PySem.W.Frag) (g : G2) : R2 := low2 K g
theorem xd_ix : IxR X (low2 X.K gIx) := by
  intro value slice pins s σ H x y v u Q I rx ry ⟨dx, dy, m, G, q, hx, hy, hs, hg, hq⟩ he
  refine ix_seq value slice pins s σ H x y v u Q I rx ry ?_ he
  have fall : ∀ {dx : D} {x : V} {i : Int}, Rep X.K G dx x → (∃ ds d, lstOf dx m = some ds ∧ atI ds i = some d ∧ q d m) → rIx X.K x (.int i) H Q := fun {dx x i} h ⟨ds, d, e, e1, k⟩ => by
    obtain ⟨p, vs, rfl, hp, ra⟩ := lst_at hs h e
    obtain ⟨w, e2, r2⟩ := atI_rep ra e1
    exact .inl ⟨p, vs, i, w, rfl, rfl, SqL.of hp, e2, hq.here hs r2 k⟩
  cases dy with
  | int i =>
    cases hy
    cases dx with
    | str a =>
      cases hx
      obtain ⟨hz, c, e, k⟩ := hg
      exact .inr (.inr ⟨_, i, c, rfl, rfl, by rw [str_len]; exact hz, by simpa using e, hq.here hs (Rep.str [c]) k⟩)
    | tup ds =>
      cases hx with
      | tup e r =>
        obtain ⟨d, e1, k⟩ := hg
        obtain ⟨w, e2, r2⟩ := atI_rep r e1
        exact .inr (.inl ⟨_, _, i, w, rfl, rfl, SqT.of (hs.sub _ _ e), e2, hq.here hs r2 k⟩)
    | _ => exact fall hx hg
  | _ => cases dx <;> exact False.elim hg
variable {a b : Expr} {rb : RE} {pos p2 : Pos}
theorem de_ix {ra : RE} (ha : DE X W a ra) (hb : DE X W b rb) (hs : PlainIx b) : DE X W (.Subscript a b pos) (rOp gIx ra rb) := PE.imp (pe_ix xd_ix ha hb hs) lowOp
/-- a slice's end -/
abbrev RO := XD → Nv → Mem → (Option Int → Mem → Prop) → Prop
def lowO (K : PySem.W.Frag) (W : WX) (r : RO) : TO := fun t H Q => ∃ (n : Nv) (m : Mem) (G : Hp) (xd : XD) (q : Option Int → Mem → Prop), RepN K G n t ∧ Sep K G m H ∧ LinkX K W G xd ∧ r xd n m q ∧
  ∀ o m' G' H', Same G G' → Sep K G' m' H' → q o m' → Q o H'
def rNoPart : RO := fun _ _ m q => q none m
def rPart (r : RE) : RO := fun xd n m q => r xd n m fun d m1 => ∃ i, d = .int i ∧ q (some i) m1
theorem PO.imp {e : Option Expr} {t u : TO} (h : PO X e t) (i : ∀ s H Q, u s H Q → t s H Q) : PO X e u := ⟨fun pins s σ H Q I q => h.run pins s σ H Q I (i σ H Q q)⟩
theorem do_none : PO X none (lowO X.K W rNoPart) := PO.imp po_none fun t H Q ⟨n, m, G, xd, q, hn, hs, hl, hr, hq⟩ => hq none m G H (Same.refl G) hs hr
theorem do_some {r : RE} (h : DE X W e r) : PO X (some e) (lowO X.K W (rPart r)) := PO.imp (po_some h) fun t H Q ⟨n, m, G, xd, q, hn, hs, hl, hr, hq⟩ =>
  ⟨n, m, G, xd, _, hn, hs, hl, hr, fun d m1 v G1 H1 e1 s1 r1 ⟨i, e, q1⟩ => by
    subst e
    cases r1
    exact ⟨i, rfl, hq (some i) m1 G1 H1 e1 s1 q1⟩⟩
def cut {α : Type} (xs : List α) (lo hi : Option Int) : List α := (xs.drop (HT.sIx xs.length 0 lo)).take (HT.sIx xs.length xs.length hi - HT.sIx xs.length 0 lo)
theorem Reps.cut {K : PySem.W.Frag} {G : Hp} {ds : List D} {vs : List V} (r : Reps K G ds vs) (lo hi : Option Int) : Reps K G (DL.cut ds lo hi) (cutV vs lo hi) := by
  unfold DL.cut cutV
  rw [← r.length]
  exact (r.drop _).take _
def gSl : D → Option Int → Option Int → Mem → QD → Prop
  | .str a, lo, hi, m, q => a.length ≤ sizeLine ∧ q (.str (cut a lo hi)) m
  | .tup ds, lo, hi, m, q => ¬ (HT.sIx ds.length 0 lo = 0 ∧ HT.sIx ds.length ds.length hi = ds.length) ∧ q (.tup (cut ds lo hi)) m
  | x, lo, hi, m, q => ∃ ds, lstOf x m = some ds ∧ q (.lst (cut ds lo hi)) m
def lowSl (K : PySem.W.Frag) (g : D → Option Int → Option Int → Mem → QD → Prop) : V → Option Int → Option Int → Hp → VK → Prop := fun x lo hi H Q => ∃ d m G q, Rep K G d x ∧ Sep K G m H ∧ g d lo hi m q ∧ lowQ K G q Q
theorem sd_sl : SlR X (lowSl X.K gSl) := by
  intro pins s σ H x v vl vu lo hi sl Q I rx hsl pl pu ⟨d, m, G, q, hx, hs, hg, hq⟩
  refine SlR.or sl_list (SlR.or sl_tup sl_str) pins s σ H x v vl vu lo hi sl Q I rx hsl pl pu ?_
  have fall : ∀ {dx : D} {x : V}, Rep X.K G dx x → (∃ ds, lstOf dx m = some ds ∧ q (.lst (cut ds lo hi)) m) → rSlL X.K x lo hi H Q := fun {dx x} h ⟨ds, e, k⟩ => by
    obtain ⟨p, vs, rfl, hp, ra⟩ := lst_at hs h e
    refine ⟨p, vs, rfl, SqL.of hp, fun l hl => ?_⟩
    obtain ⟨s2, e2⟩ := hs.laid hl (.lst (cutV vs lo hi))
    exact hq _ m _ _ _ e2 s2 (.lst upd_same ((ra.cut lo hi).mono e2)) k
  cases hx with
  | str a =>
    refine .inr (.inr ⟨_, rfl, by rw [str_len]; exact hg.1, ?_⟩)
    have := hq.here hs (Rep.str _) hg.2
    unfold cut at this
    unfold cutS
    simpa [Str.length] using this
  | tup e r =>
    refine .inr (.inl ⟨_, _, rfl, SqT.of (hs.sub _ _ e), by rw [← r.length]; exact hg.1, fun l hl => ?_⟩)
    obtain ⟨s2, e2⟩ := hs.laid hl (.tup (cutV _ lo hi))
    exact hq _ m _ _ _ e2 s2 (.tup upd_same ((r.cut lo hi).mono e2)) hg.2
  | non => exact .inl (fall .non hg)
  | bl b => exact .inl (fall (.bl b) hg)
  | int i => exact .inl (fall (.int i) hg)
  | ref a => exact .inl (fall (.ref a) hg)
  | ty n => exact .inl (fall (.ty n) hg)
  | lst e r => exact .inl (fall (.lst e r) hg)
  | scr e => exact .inl (fall (.scr e) hg)
  | ins c e r => exact .inl (fall (.ins c e r) hg)
  | exc c e r => exact .inl (fall (.exc c e r) hg)
  | exc0 c => exact .inl (fall (.exc0 c) hg)
  | dK e r => exact .inl (fall (.dK e r) hg)
  | dT e z l n r => exact .inl (fall (.dT e z l n r) hg)
def rSl (r : RE) (rl rh : RO) : RE := fun xd n m q => r xd n m fun x m1 => rl xd n m1 fun lo m2 => rh xd n m2 fun hi m3 => gSl x lo hi m3 q
theorem de_slice {r : RE} {lo hi : Option Expr} {rl rh : RO} (he : DE X W e r) (hl : PO X lo (lowO X.K W rl)) (hu : PO X hi (lowO X.K W rh)) : DE X W (.Subscript e (.Slice lo hi none p2) pos) (rSl r rl rh) :=
  PE.imp (pe_slice sd_sl he hl hu) fun t H Q ⟨n, m, G, xd, q, hn, hs, hl, hr, hq⟩ =>
    ⟨n, m, G, xd, _, hn, hs, hl, hr, fun d m1 v G1 H1 e1 s1 r1 q1 => ⟨n, m1, G1, xd, _, hn.mono e1, s1, hl.mono e1, q1, fun o1 m2 G2 H2 e2 s2 q2 =>
      ⟨n, m2, G2, xd, _, hn.mono (e1.trans e2), s2, hl.mono (e1.trans e2), q2, fun o2 m3 G3 H3 e3 s3 q3 => ⟨d, m3, G3, q, r1.mono (e2.trans e3), s3, q3, fun d m' v G' H' e4 s4 r4 q4 => hq d m' v G' H' (e1.trans (e2.trans (e3.trans e4))) s4 r4 q4⟩⟩⟩⟩
end
end DL

/-! DL5: statements, loops, comprehensions, calls of defs -/
namespace DL
open PySem PySem.Spec PyProof.Rows L2

/-! ### targets -/
inductive Tgt where
  | nm (i : Nat)
  | tp (js : List Nat)
def setAll : List Nat → List D → Nv → Nv
  | i :: js, d :: ds, n => setAll js ds (n.set i (some d))
  | _, _, n => n
def setT : Tgt → D → Nv → (Nv → Prop) → Prop
  | .nm i, d, n, k => k (n.set i (some d))
  | .tp js, d, n, k => ∃ ds, d = .tup ds ∧ ds.length = js.length ∧ k (setAll js ds n)
def gNames : List Nat → TGs
  | [] => gNil
  | i :: js => gCons (gName i) (gNames js)
def gT (K : PySem.W.Frag) : Tgt → TG
  | .nm i => gName i
  | .tp js => gTup K js.length (gNames js)
def setAllV : List Nat → List V → L2.St → L2.St
  | i :: js, d :: ds, n => setAllV js ds (n.set i (some d))
  | _, _, n => n
section
variable {K : PySem.W.Frag} {G H : Hp} {m : Mem}
theorem gNames_ok : ∀ (js : List Nat) (vs : List V) (t : L2.St) (H : Hp) (Q : L2.St → Hp → Prop), vs.length = js.length → Q (setAllV js vs t) H → gNames js vs t H Q
  | [], [], t, H, Q, _, q => ⟨rfl, q⟩
  | i :: js, v :: vs, t, H, Q, h, q => ⟨v, vs, rfl, gNames_ok js vs _ H Q (by simpa using h) q⟩
theorem setAll_rep : ∀ (js : List Nat) {ds : List D} {vs : List V} {n : Nv} {t : L2.St}, Reps K G ds vs → RepN K G n t → RepN K G (setAll js ds n) (setAllV js vs t)
  | [], _, _, _, _, _, r => by simpa [setAll, setAllV] using r
  | i :: js, _, _, _, _, .nil, r => by simpa [setAll, setAllV] using r
  | i :: js, _, _, _, _, .cons h q, r => by
    rw [setAll, setAllV]
    exact setAll_rep js q (r.set h i)
theorem setT_ok {T : Tgt} {d : D} {v : V} {n : Nv} {t : L2.St} {k : Nv → Prop} {Q : L2.St → Hp → Prop} (s : Sep K G m H) (r : Rep K G d v) (hn : RepN K G n t) (h : setT T d n k) (hk : ∀ n' t', RepN K G n' t' → k n' → Q t' H) : gT K T v t H Q := by
  cases T with
  | nm i => exact hk _ _ (hn.set r i) h
  | tp js =>
    obtain ⟨ds, rfl, hl, h⟩ := h
    cases r with
    | tup e r => exact ⟨_, _, rfl, SqT.of (s.sub _ _ e), by rw [← r.length]; exact hl, gNames_ok js _ t H Q (by rw [← r.length]; exact hl) (hk _ _ (setAll_rep js r hn) h)⟩
end
section
variable {X : Cx} {W : WX} {pos : Pos}
theorem dg_nm {i : Nat} {x : Str} (hN : X.N.Nodup) (hi : X.N[i]? = some x) (hx : Loc X.env.scope x) (hf : X.fn x = true ∨ X.env.scope.names.lookup x = some .local := by first | exact .inl rfl | exact .inr rfl | assumption) : PG X (.Name x pos) (gT X.K (.nm i)) := pg_name hN hi hx hf
theorem dg_tp {es : List Expr} {k : Nat} {js : List Nat} (hc : X.calm = true) (h : PGs X es (gNames js)) (hn : (assignEach es X.env).length = js.length := by rfl) (hst : (assignEach es X.env).findIdx? (·.1) = none := by rfl) : PG X (.Tuple es k pos) (gT X.K (.tp js)) := pg_tup hc h hn hst
theorem dgs_nil : PGs X [] (gNames []) := pgs_nil
theorem dgs_cons {i : Nat} {x : Str} {js : List Nat} {es : List Expr} (hN : X.N.Nodup) (hi : X.N[i]? = some x) (hx : Loc X.env.scope x) (h : PGs X es (gNames js))
    (hs : (assignEach (.Name x pos :: es) X.env).map (·.2) = assign (.Name x pos) X.env :: (assignEach es X.env).map (·.2) := by rfl) (hf : X.fn x = true ∨ X.env.scope.names.lookup x = some .local := by first | exact .inl rfl | exact .inr rfl | assumption) : PGs X (.Name x pos :: es) (gNames (i :: js)) := pgs_cons (pg_name hN hi hx hf) h hs

/-! ### statements -/
def rSkip : RS := fun _ e n m => e.nx n m
def rSeq (r u : RS) : RS := fun xd e n m => r xd { e with nx := u xd e } n m
def rSet (r : RE) (i : Nat) : RS := fun xd e n m => r xd n m fun d m1 => e.nx (n.set i (some d)) m1
def rAsg (r : RE) (T : Tgt) : RS := fun xd e n m => r xd n m fun d m1 => setT T d n fun n1 => e.nx n1 m1
def rRet (r : RE) : RS := fun xd e n m => r xd n m e.rt
def rRetN : RS := fun _ e _ m => e.rt .non m
def rDrop (r : RE) : RS := fun xd e n m => r xd n m fun _ m1 => e.nx n m1
def rIf (c : RT) (r u : RS) : RS := fun xd e n m => c xd n m fun b m1 => if b = true then r xd e n m1 else u xd e n m1
variable {st : Stmt} {rest : List Stmt} {r u : RS} {e : Expr} {re : RE}
theorem ds_nil : DSs X W [] rSkip := PSs.imp pss_nil fun D t H ⟨n, m, G, xd, e, hn, hs, hl, hr, L⟩ => L.nx n m t G H (Same.refl G) hs hn hr
theorem ds_cons (h1 : DS X W st r) (h2 : DSs X W rest u) : DSs X W (st :: rest) (rSeq r u) := PSs.imp (pss_cons h1 h2) fun D t H ⟨n, m, G, xd, e, hn, hs, hl, hr, L⟩ =>
  ⟨n, m, G, xd, _, hn, hs, hl, hr, ⟨fun n' m' t' G' H' e1 s1 r1 k => ⟨n', m', G', xd, e, r1, s1, hl.mono e1, k, L.mono e1⟩, L.rt, L.bk, L.ct⟩⟩
theorem ds_one (h1 : DS X W st r) : DSs X W [st] r := pss_one h1
theorem ds_pass : DS X W (.Pass pos) rSkip := PS.imp ps_pass fun D t H ⟨n, m, G, xd, e, hn, hs, hl, hr, L⟩ => L.nx n m t G H (Same.refl G) hs hn hr
def rBreak : RS := fun _ e n m => e.bk n m
def rCont : RS := fun _ e n m => e.ct n m
theorem ds_break : DS X W (.Break pos) rBreak := PS.imp ps_break fun D t H ⟨n, m, G, xd, e, hn, hs, hl, hr, L⟩ => L.bk n m t G H (Same.refl G) hs hn hr
theorem ds_cont : DS X W (.Continue pos) rCont := PS.imp ps_continue fun D t H ⟨n, m, G, xd, e, hn, hs, hl, hr, L⟩ => L.ct n m t G H (Same.refl G) hs hn hr
theorem ds_set {i : Nat} {x : Str} {pos' : Pos} (hN : X.N.Nodup) (hi : X.N[i]? = some x) (hx : Loc X.env.scope x) (he : DE X W e re) (hs : swapsWith e (some (.Name x pos')) pos.line X.env = pure false := by rfl) (hf : X.fn x = true ∨ X.env.scope.names.lookup x = some .local := by first | exact .inl rfl | exact .inr rfl | assumption) :
    DS X W (.Assign [.Name x pos'] e pos) (rSet re i) := PS.imp (ps_set hN hi hx he hs hf) fun D t H ⟨n, m, G, xd, e, hn, hs, hl, hr, L⟩ =>
  ⟨n, m, G, xd, _, hn, hs, hl, hr, fun d m1 v G1 H1 e1 s1 r1 k => L.nx _ m1 _ G1 H1 e1 s1 ((hn.mono e1).set r1 i) k⟩
theorem ds_asg {tg : Expr} {T : Tgt} (he : DE X W e re) (hg : PG X tg (gT X.K T)) (hs : swapsWithSole [tg] e pos.line X.env = pure false := by rfl) (hw : swappedStores [tg] e X.env = pure none := by rfl)
    (h1 : (assignEach [tg] X.env).map (·.2) = [assign tg X.env] := by rfl) : DS X W (.Assign [tg] e pos) (rAsg re T) := PS.imp (ps_asg he hg hs hw h1) fun D t H ⟨n, m, G, xd, e, hn, hs, hl, hr, L⟩ =>
  ⟨n, m, G, xd, _, hn, hs, hl, hr, fun d m1 v G1 H1 e1 s1 r1 k => setT_ok s1 r1 (hn.mono e1) k fun n' t' rn q => L.nx n' m1 t' G1 H1 e1 s1 rn q⟩
theorem ds_ret (he : DE X W e re) : DS X W (.Return (some e) pos) (rRet re) := PS.imp (ps_ret he) fun D t H ⟨n, m, G, xd, e, hn, hs, hl, hr, L⟩ =>
  ⟨n, m, G, xd, _, hn, hs, hl, hr, fun d m1 v G1 H1 e1 s1 r1 k => L.rt d m1 v G1 H1 e1 s1 r1 k⟩
theorem ds_retN : DS X W (.Return none pos) rRetN := PS.imp ps_retN fun D t H ⟨n, m, G, xd, e, hn, hs, hl, hr, L⟩ => L.rt .non m .non G H (Same.refl G) hs .non hr
theorem ds_expr (he : DE X W e re) (hs : swapsWith e none pos.line X.env = pure false := by rfl) : DS X W (.Expr e pos) (rDrop re) := PS.imp (ps_expr he hs) fun D t H ⟨n, m, G, xd, e, hn, hs, hl, hr, L⟩ =>
  ⟨n, m, G, xd, _, hn, hs, hl, hr, fun d m1 v G1 H1 e1 s1 r1 k => L.nx n m1 t G1 H1 e1 s1 (hn.mono e1) k⟩
theorem ds_doc {x j pos pos'} : DS X W (.Expr (.Constant (.str x) j pos) pos') rSkip := PS.imp ps_doc fun D t H ⟨n, m, G, xd, e, hn, hs, hl, hr, L⟩ => L.nx n m t G H (Same.refl G) hs hn hr
theorem ds_if {c : Expr} {a b : List Stmt} {rc : RT} (hc : DT X W c rc) (ha : DSs X W a r) (hb : DSs X W b u) : DS X W (.If c a b pos) (rIf rc r u) := PS.imp (ps_if hc ha hb) fun D t H ⟨n, m, G, xd, e, hn, hs, hl, hr, L⟩ =>
  ⟨n, m, G, xd, _, hn, hs, hl, hr, fun b m1 G1 H1 e1 s1 k => by
    cases b with
    | true => exact ⟨n, m1, G1, xd, e, hn.mono e1, s1, hl.mono e1, k, L.mono e1⟩
    | false => exact ⟨n, m1, G1, xd, e, hn.mono e1, s1, hl.mono e1, k, L.mono e1⟩⟩
/-- code that is never come to -/
def rNever : RS := fun _ _ _ _ => False
theorem ds_never : DS X W st rNever := PS.imp ps_never fun D t H ⟨n, m, G, xd, e, hn, hs, hl, hr, L⟩ => hr
/-- a statement behind which a word is said -/
def rCut (r u : RS) : RS := fun xd e n m => ∃ Mid : Nv → Mem → Prop, r xd { e with nx := Mid } n m ∧ ∀ n' m', Mid n' m' → u xd e n' m'
/-- xs[i] = v -/
def rSetIx (ro ri rv : RE) : RS := fun xd e n m => rv xd n m fun v m1 => ro xd n m1 fun o m2 => ri xd n m2 fun i m3 => ∃ a xs k j, o = .ref a ∧ i = .int k ∧ m3 a = some (.lst xs) ∧ ixN xs.length k = some j ∧ e.nx n (mset m3 a (.lst (xs.set j v)))
theorem ds_setIx {o i : Expr} {ro ri : RE} {pos' : Pos} (ho : DE X W o ro) (hi : DE X W i ri) (he : DE X W e re) (ha : ∀ v, assign (.Subscript o i pos') X.env v = (do
      let ov ← holding [v] (eval o X.env)
      let iv ← holding [v, ov] (eval i X.env)
      standAt pos'
      holding [v, ov, iv] (setItem ov iv v)
      release [v, ov, iv] []) := by intro _; rfl) (hs : swapsWithSole [.Subscript o i pos'] e pos.line X.env = pure false := by rfl) (hw : swappedStores [.Subscript o i pos'] e X.env = pure none := by rfl)
    (h1 : (assignEach [.Subscript o i pos'] X.env).map (·.2) = [assign (.Subscript o i pos') X.env] := by rfl) : DS X W (.Assign [.Subscript o i pos'] e pos) (rSetIx ro ri re) :=
  PS.imp (ps_asg he (pg_sub ho hi set_list ha) hs hw h1) fun D t H ⟨n, m, G, xd, e, hn, hs, hl, hr, L⟩ =>
    ⟨n, m, G, xd, _, hn, hs, hl, hr, fun d m1 v G1 H1 e1 s1 r1 k => ⟨n, m1, G1, xd, _, hn.mono e1, s1, hl.mono e1, k, fun d2 m2 v2 G2 H2 e2 s2 r2 k2 =>
      ⟨n, m2, G2, xd, _, hn.mono (e1.trans e2), s2, hl.mono (e1.trans e2), k2, fun d3 m3 v3 G3 H3 e3 s3 r3 ⟨a, xs, i, j, ea, ei, ma, hj, k3⟩ => by
        subst ea ei
        cases r2
        cases r3
        obtain ⟨vs, h1, r4⟩ := s3.lst ma
        exact ⟨a, vs, i, j, rfl, rfl, h1, by rw [← r4.length]; exact hj, L.nx n _ t G3 _ (e1.trans (e2.trans e3)) (s3.write ma (.lst (r4.set (r1.mono (e2.trans e3)) j))) (hn.mono (e1.trans (e2.trans e3))) k3⟩⟩⟩⟩
/-- name += e -/
def rAug (g : G2) (i : Nat) (r : RE) : RS := fun xd e n m => ∃ d, n[i]? = some (some d) ∧ r xd n m fun y m1 => g d y m1 fun z m2 => e.nx (n.set i (some z)) m2
theorem ds_aug {i : Nat} {x : Str} {op : Operator} {g : G2} {pos' : Pos} (hN : X.N.Nodup) (hi : X.N[i]? = some x) (hx : Loc X.env.scope x) (he : DE X W e re) (ho : OpR X (inplaceOp op) (low2 X.K g)) (hf : X.fn x = true ∨ X.env.scope.names.lookup x = some .local := by first | exact .inl rfl | exact .inr rfl | assumption) :
    DS X W (.AugAssign (.Name x pos') op e pos) (rAug g i re) := PS.imp (ps_aug (ti := low2 X.K g) hN hi hx he (fun pins s σ H x y v u Q I rx ry q => ho pins s σ H x y v u Q I rx ry q) hf) fun D t H ⟨n, m, G, xd, e, hn, hs, hl, hr, L⟩ => by
  obtain ⟨d, e0, hr⟩ := hr
  obtain ⟨v, e1, r1⟩ := hn.get e0
  exact ⟨v, e1, n, m, G, xd, _, hn, hs, hl, hr, fun y m1 w G1 H1 e2 s1 r2 k => ⟨d, y, m1, G1, _, r1.mono e2, r2, s1, k, fun z m2 v2 G2 H2 e3 s2 r3 k2 => L.nx _ m2 _ G2 H2 (e2.trans e3) s2 ((hn.mono (e2.trans e3)).set r3 i) k2⟩⟩
/-- += of ints and texts -/
def gIAdd : D → D → Mem → QD → Prop
  | .int i, .int j, m, q => q (.int (i + j)) m
  | .str a, .str b, m, q => a.length + b.length ≤ sizeLine ∧ q (.str (a ++ b)) m
  | _, _, m, q => False
theorem od_iadd : OpR X (inplaceOp .Add) (low2 X.K gIAdd) := opN fun pins s σ H G m dx dy x y v u q Q I rx ry hx hy hs hg hq => by
  cases dx with
  | int i =>
    cases dy with
    | int j =>
      cases hx; cases hy
      exact iop_add pins s σ H _ _ v u Q I rx ry ⟨i, j, rfl, rfl, hq.here hs (.int _) hg⟩
    | _ => exact False.elim hg
  | str a =>
    cases dy with
    | str b =>
      cases hx; cases hy
      exact iop_add_str pins s σ H _ _ v u Q I rx ry ⟨_, _, rfl, rfl, by rw [str_len, str_len]; exact hg.1, by rw [str_app]; exact hq.here hs (.str _) hg.2⟩
    | _ => exact False.elim hg
  | _ => cases dy <;> exact False.elim hg

/-! ### what is walked -/
structure Src (K : PySem.W.Frag) (G : Hp) (J : It) (ds : List D) : Prop where
  go : ∀ i H m G', Same G G' → Sep K G' m H → i < ds.length → J.go i H
  yld : ∀ i x H H' m G', Same G G' → Sep K G' m H → i < ds.length → J.yld i H x H' → ∃ G'' d, ds[i]? = some d ∧ Same G' G'' ∧ Sep K G'' m H' ∧ Rep K G'' d x
  stop : ∀ H m G', Same G G' → Sep K G' m H → J.stop ds.length H
abbrev RI := XD → Nv → Mem → (List D → Mem → Prop) → Prop
def lowI (K : PySem.W.Frag) (W : WX) (r : RI) : TI := fun t H R => ∃ (n : Nv) (m : Mem) (G : Hp) (xd : XD) (q : List D → Mem → Prop), RepN K G n t ∧ Sep K G m H ∧ LinkX K W G xd ∧ r xd n m q ∧
  ∀ ds m' G' H' J, Same G G' → Sep K G' m' H' → Src K G' J ds → q ds m' → R J H'
abbrev DI (X : Cx) (W : WX) (tg iter : Expr) (r : RI) : Prop := PI X tg iter (lowI X.K W r)
theorem PI.imp {tg e : Expr} {t u : TI} (h : PI X tg e t) (i : ∀ s H R, u s H R → t s H R) : PI X tg e u := ⟨fun pins s σ H R I q => h.run pins s σ H R I (i σ H R q)⟩
theorem src_list {K : PySem.W.Frag} {G : Hp} {a : Addr} {ds : List D} {vs : List V} (h : G a = some (.lst vs)) (r : Reps K G ds vs) : Src K G (Itl K a) ds where
  go := fun i H m G' e s hi => by
    obtain ⟨v, e1, _⟩ := r.get (List.getElem?_eq_getElem hi)
    exact ⟨vs, v, SqL.of (s.sub _ _ (e _ _ h)), e1⟩
  yld := fun i x H H' m G' e s hi y => by
    obtain ⟨rfl, y⟩ := y
    have e1 := y vs (SqL.of (s.sub _ _ (e _ _ h)))
    obtain ⟨d, e2, r2⟩ := r.getV e1
    exact ⟨G', d, e2, Same.refl _, s, r2.mono e⟩
  stop := fun H m G' e s => ⟨vs, SqL.of (s.sub _ _ (e _ _ h)), by rw [r.length]; exact Nat.le_refl _⟩
theorem src_tup {K : PySem.W.Frag} {G : Hp} {a : Addr} {ds : List D} {vs : List V} (h : G a = some (.tup vs)) (r : Reps K G ds vs) : Src K G (Itt K a) ds where
  go := fun i H m G' e s hi => by
    obtain ⟨v, e1, _⟩ := r.get (List.getElem?_eq_getElem hi)
    exact ⟨vs, v, SqT.of (s.sub _ _ (e _ _ h)), e1⟩
  yld := fun i x H H' m G' e s hi y => by
    obtain ⟨rfl, y⟩ := y
    have e1 := y vs (SqT.of (s.sub _ _ (e _ _ h)))
    obtain ⟨d, e2, r2⟩ := r.getV e1
    exact ⟨G', d, e2, Same.refl _, s, r2.mono e⟩
  stop := fun H m G' e s => ⟨vs, SqT.of (s.sub _ _ (e _ _ h)), by rw [r.length]; exact Nat.le_refl _⟩
def rngD (lo : Int) (n : Nat) : List D := (List.range n).map fun i => D.int (lo + (i : Nat))
theorem src_range {K : PySem.W.Frag} {G : Hp} {lo : Int} {n : Nat} : Src K G (Itr lo n) (rngD lo n) where
  go := fun i H m G' e s hi => by
    show i < n
    simpa [rngD] using hi
  yld := fun i x H H' m G' e s hi y => by
    obtain ⟨rfl, rfl⟩ := y
    have hi' : i < n := by simpa [rngD] using hi
    exact ⟨G', .int (lo + i), by simp [rngD, hi'], Same.refl _, s, .int _⟩
  stop := fun H m G' e s => by
    show n ≤ (rngD lo n).length
    simp [rngD]
def chars (a : List Nat) : List D := a.map fun c => D.str [c]
theorem src_str {K : PySem.W.Frag} {G : Hp} {a : List Nat} : Src K G (Its ⟨a.toArray⟩) (chars a) where
  go := fun i H m G' e s hi => by simpa [chars, Its] using hi
  yld := fun i x H H' m G' e s hi y => by
    obtain ⟨rfl, c, e1, rfl⟩ := y
    refine ⟨G', .str [c], ?_, Same.refl _, s, .str [c]⟩
    have : a[i]? = some c := by simpa using e1
    simp [chars, this]
  stop := fun H m G' e s => by
    show a.toArray.size ≤ (chars a).length
    simp [chars]
/-- for x in xs: a list that won't change, a tuple, a text; a list of one's own stays as it is from here on -/
def rIn (r : RE) : RI := fun xd n m q => r xd n m fun d m1 => match d with
  | .lst ds => q ds m1
  | .ref p => ∃ ds, m1 p = some (.lst ds) ∧ q ds (mdel m1 p)
  | _ => False
theorem di_list {tg : Expr} (h : DE X W e re) : DI X W tg e (rIn re) := PI.imp (pi_list h) fun t H R ⟨n, m, G, xd, q, hn, hs, hl, hr, hq⟩ =>
  ⟨n, m, G, xd, _, hn, hs, hl, hr, fun d m1 v G1 H1 e1 s1 r1 k => by
    cases r1 with
    | lst e r => exact ⟨_, rfl, ⟨_, SqL.of (s1.sub _ _ e)⟩, hq _ m1 G1 H1 _ e1 s1 (src_list e r) k⟩
    | ref p =>
      obtain ⟨ds, e, k⟩ := k
      obtain ⟨vs, h1, r1⟩ := s1.lst e
      obtain ⟨s2, e2⟩ := s1.freeze e h1
      exact ⟨_, rfl, ⟨vs, SqL.of h1⟩, hq ds _ _ H1 _ (e1.trans e2) s2 (src_list upd_same (r1.mono e2)) k⟩
    | _ => exact False.elim k⟩
def rInT (r : RE) : RI := fun xd n m q => r xd n m fun d m1 => match d with
  | .tup ds => q ds m1
  | _ => False
theorem di_tup {tg : Expr} (h : DE X W e re) : DI X W tg e (rInT re) := PI.imp (pi_tup h) fun t H R ⟨n, m, G, xd, q, hn, hs, hl, hr, hq⟩ =>
  ⟨n, m, G, xd, _, hn, hs, hl, hr, fun d m1 v G1 H1 e1 s1 r1 k => by
    cases r1 with
    | tup e r => exact ⟨_, rfl, ⟨_, SqT.of (s1.sub _ _ e)⟩, hq _ m1 G1 H1 _ e1 s1 (src_tup e r) k⟩
    | _ => exact False.elim k⟩
def rInS (r : RE) : RI := fun xd n m q => r xd n m fun d m1 => match d with
  | .str a => q (chars a) m1
  | _ => False
theorem di_str {tg : Expr} (h : DE X W e re) : DI X W tg e (rInS re) := PI.imp (pi_str h) fun t H R ⟨n, m, G, xd, q, hn, hs, hl, hr, hq⟩ =>
  ⟨n, m, G, xd, _, hn, hs, hl, hr, fun d m1 v G1 H1 e1 s1 r1 k => by
    cases r1 with
    | str a => exact ⟨_, rfl, hq _ m1 G1 H1 _ e1 s1 src_str k⟩
    | _ => exact False.elim k⟩
def rRng1 (r : RA) : RI := fun xd n m q => r xd n m fun ds m1 => ∃ j : Int, ds = [.int j] ∧ -(2 ^ 62) ≤ j ∧ j < 2 ^ 62 ∧ q (rngD 0 j.toNat) m1
theorem di_range1 {tg a : Expr} {p : Pos} {ra : RA} (hg : Gl X "range") (hm : X.mg "range" = none) (ha : DA X W [a] ra) (hs : starEach [a] X.env = [(false, eval a X.env)] := by rfl) : DI X W tg (.Call (.Name "range" p) [a] [] pos) (rRng1 ra) :=
  PI.imp (pi_range1 hg hm ha hs) fun t H R ⟨n, m, G, xd, q, hn, hs, hl, hr, hq⟩ =>
    ⟨n, m, G, xd, _, hn, hs, hl, hr, fun ds m1 vs G1 H1 e1 s1 r1 ⟨j, e, h1, h2, k⟩ => by
      subst e
      cases r1 with
      | cons h r => cases r; cases h; exact ⟨j, rfl, h1, h2, hq _ m1 G1 H1 _ e1 s1 src_range k⟩⟩
def rRng2 (r : RA) : RI := fun xd n m q => r xd n m fun ds m1 => ∃ i j : Int, ds = [.int i, .int j] ∧ (-(2 ^ 62) ≤ i ∧ i < 2 ^ 62 ∧ -(2 ^ 62) ≤ j ∧ j < 2 ^ 62) ∧ q (rngD i (j - i).toNat) m1
theorem di_range2 {tg a b : Expr} {p : Pos} {ra : RA} (hg : Gl X "range") (hm : X.mg "range" = none) (ha : DA X W [a, b] ra) (hs : starEach [a, b] X.env = [(false, eval a X.env), (false, eval b X.env)] := by rfl) (hs2 : starEach [b] X.env = [(false, eval b X.env)] := by rfl) :
    DI X W tg (.Call (.Name "range" p) [a, b] [] pos) (rRng2 ra) :=
  PI.imp (pi_range2 hg hm ha hs hs2) fun t H R ⟨n, m, G, xd, q, hn, hs, hl, hr, hq⟩ =>
    ⟨n, m, G, xd, _, hn, hs, hl, hr, fun ds m1 vs G1 H1 e1 s1 r1 ⟨i, j, e, h1, k⟩ => by
      subst e
      cases r1 with
      | cons h r =>
        cases r with
        | cons h' r => cases r; cases h; cases h'; exact ⟨i, j, rfl, h1, hq _ m1 G1 H1 _ e1 s1 src_range k⟩⟩

/-! ### for, while -/
def forD (T : Tgt) (b : RS) (xd : XD) : List D → EN → Nv → Mem → Prop
  | [], e, n, m => e.nx n m
  | x :: xs, e, n, m => setT T x n fun n1 => b xd ⟨forD T b xd xs e, e.rt, e.nx, forD T b xd xs e⟩ n1 m
def rFor (ri : RI) (T : Tgt) (b : RS) : RS := fun xd e n m => ri xd n m fun ds m1 => forD T b xd ds e n m1
theorem ds_for {tg iter : Expr} {body : List Stmt} {ri : RI} {T : Tgt} {rb : RS} (hp : PassesOwn (model X.prog X.w) X.A X.env X.xe) (hc : X.calm = true) (hi : DI X W tg iter ri) (hg : PG X tg (gT X.K T)) (hb : DSs X W body rb)
    (hs : ∀ x, foldedSetIterable iter X.env x = pure x := by intro _; rfl) : DS X W (.For tg iter body [] pos) (rFor ri T rb) :=
  PS.imp (ps_for hp hc hi hg hb hs) fun D t H ⟨n, m, G, xd, e, hn, hs, hl, hr, L⟩ =>
    ⟨n, m, G, xd, _, hn, hs, hl, hr, fun ds m1 G1 H1 J e1 s1 S k => by
      refine ⟨fun i k σ H => k = ds.length - i ∧ i ≤ ds.length ∧ ∃ n m G', Same G1 G' ∧ RepN X.K G' n σ ∧ Sep X.K G' m H ∧ forD T rb xd (ds.drop i) e n m, ⟨ds.length, by simp, Nat.zero_le _, n, m1, G1, Same.refl _, hn.mono e1, s1, k⟩, ?_⟩
      rintro i k σ H2 ⟨rfl, hi, n2, m2, G2, e2, hn2, s2, k2⟩
      by_cases hlt : i < ds.length
      · refine .inr ⟨S.go i H2 m2 G2 e2 s2 hlt, fun σ' H' => ∃ n m G', Same G1 G' ∧ RepN X.K G' n σ' ∧ Sep X.K G' m H' ∧ forD T rb xd (ds.drop (i + 1)) e n m, fun σ' H' h => ⟨ds.length - (i + 1), by omega, rfl, hlt, h⟩, fun x H' y => ?_⟩
        obtain ⟨G3, d, ed, e3, s3, r3⟩ := S.yld i x H2 H' m2 G2 e2 s2 hlt y
        rw [List.drop_eq_getElem_cons hlt] at k2
        have ed' : ds[i] = d := by
          rw [List.getElem?_eq_getElem hlt] at ed
          exact Option.some.inj ed
        rw [ed', forD] at k2
        refine setT_ok s3 r3 (hn2.mono e3) k2 fun n' t' rn q => ?_
        have e13 := e1.trans (e2.trans e3)
        exact ⟨n', m2, G3, xd, _, rn, s3, hl.mono e13, q, ⟨fun n4 m4 t4 G4 H4 e4 s4 r4 k4 => ⟨n4, m4, G4, e2.trans (e3.trans e4), r4, s4, k4⟩, fun d m v G' H' a => L.rt d m v G' H' (e13.trans a), fun n m t G' H' a => L.nx n m t G' H' (e13.trans a), fun n4 m4 t4 G4 H4 e4 s4 r4 k4 => ⟨n4, m4, G4, e2.trans (e3.trans e4), r4, s4, k4⟩⟩⟩
      · have e : i = ds.length := by omega
        subst e
        refine .inl ⟨S.stop H2 m2 G2 e2 s2, ?_⟩
        rw [List.drop_length, forD] at k2
        exact L.nx n2 m2 σ G2 H2 (e1.trans e2) s2 hn2 k2⟩
def rWhile (c : RT) (b : RS) : RS := fun xd e n m => ∃ Z : Nat → Nv → Mem → Prop, (∃ k, Z k n m) ∧ ∀ k n m, Z k n m →
  c xd n m fun t m1 => if t = true then ∃ N : Nv → Mem → Prop, (∀ n' m', N n' m' → ∃ k', k' < k ∧ Z k' n' m') ∧ b xd { e with nx := N, ct := N, bk := e.nx } n m1 else e.nx n m1
theorem ds_while {c : Expr} {body : List Stmt} {rc : RT} {rb : RS} (hp : PassesOwn (model X.prog X.w) X.A X.env X.xe) (hc : DT X W c rc) (hb : DSs X W body rb) : DS X W (.While c body [] pos) (rWhile rc rb) :=
  PS.imp (ps_while hp hc hb) fun D t H ⟨n, m, G, xd, e, hn, hs, hl, ⟨Z, ⟨k, z⟩, turn⟩, L⟩ => by
    refine ⟨fun k σ H => ∃ n m G', Same G G' ∧ RepN X.K G' n σ ∧ Sep X.K G' m H ∧ Z k n m, ⟨k, n, m, G, Same.refl _, hn, hs, z⟩, ?_⟩
    rintro k σ H2 ⟨n2, m2, G2, e2, hn2, s2, z2⟩
    refine ⟨n2, m2, G2, xd, _, hn2, s2, hl.mono e2, turn k n2 m2 z2, fun b m3 G3 H3 e3 s3 q => ?_⟩
    have e23 := e2.trans e3
    cases b with
    | true =>
      obtain ⟨N, hN, q⟩ := q
      refine ⟨fun σ' H' => ∃ n m G', Same G G' ∧ RepN X.K G' n σ' ∧ Sep X.K G' m H' ∧ N n m, fun σ' H' ⟨n', m', G', a, b, c, h⟩ => ?_, ?_⟩
      · obtain ⟨k', hk, z'⟩ := hN n' m' h
        exact ⟨k', hk, n', m', G', a, b, c, z'⟩
      · exact ⟨n2, m3, G3, xd, _, hn2.mono e3, s3, hl.mono e23, q, ⟨fun n4 m4 t4 G4 H4 e4 s4 r4 k4 => ⟨n4, m4, G4, e23.trans e4, r4, s4, k4⟩, fun d m v G' H' a => L.rt d m v G' H' (e23.trans a), fun n m t G' H' a => L.nx n m t G' H' (e23.trans a), fun n4 m4 t4 G4 H4 e4 s4 r4 k4 => ⟨n4, m4, G4, e23.trans e4, r4, s4, k4⟩⟩⟩
    | false => exact L.nx n2 m3 σ G3 H3 e23 s3 (hn2.mono e3) q

/-! ### comprehensions -/
def wipeN (n : Nv) : List Nat → Nv
  | [] => n
  | v :: vs => (wipeN n vs).set v none
theorem wipe_rep {K : PySem.W.Frag} {G : Hp} {n : Nv} {t : L2.St} (r : RepN K G n t) : ∀ vs : List Nat, RepN K G (wipeN n vs) (wipe t vs)
  | [] => r
  | v :: vs => RepN.unset v (wipe_rep r vs)
theorem wipe_get {t : L2.St} {i : Nat} : ∀ {vs : List Nat}, i ∈ vs → i < t.length → (wipe t vs)[i]? = some none
  | v :: vs, h, hl => by
    unfold wipe
    by_cases e : v = i
    · subst e
      rw [List.getElem?_set_self (by rw [wipe_length]; exact hl)]
    · rw [List.getElem?_set_ne e]
      have h' : i ∈ vs := by
        rcases List.mem_cons.mp h with z | z
        · exact absurd z.symm e
        · exact z
      exact wipe_get h' hl
theorem wipe_set {t : L2.St} {j : Nat} {v : Option V} {vs : List Nat} (h : j ∈ vs) : wipe (t.set j v) vs = wipe t vs := by
  apply List.ext_getElem?
  intro i
  by_cases hi : i ∈ vs
  · by_cases hl : i < t.length
    · rw [wipe_get hi (by simpa using hl), wipe_get hi hl]
    · rw [List.getElem?_eq_none (by rw [wipe_length]; simpa using hl), List.getElem?_eq_none (by rw [wipe_length]; simpa using hl)]
  · rw [wipe_out hi, wipe_out hi, List.getElem?_set_ne (fun e : j = i => hi (by rw [← e]; exact h))]
theorem wipe_wipe {t : L2.St} (vs : List Nat) : wipe (wipe t vs) vs = wipe t vs := by
  apply List.ext_getElem?
  intro i
  by_cases hi : i ∈ vs
  · by_cases hl : i < t.length
    · rw [wipe_get hi (by rw [wipe_length]; exact hl), wipe_get hi hl]
    · rw [List.getElem?_eq_none (by rw [wipe_length, wipe_length]; simpa using hl), List.getElem?_eq_none (by rw [wipe_length]; simpa using hl)]
  · rw [wipe_out hi]
theorem wipe_setAll {vs : List Nat} : ∀ (js : List Nat) (us : List V) (t : L2.St), (∀ j ∈ js, j ∈ vs) → wipe (setAllV js us t) vs = wipe t vs
  | [], us, t, _ => by simp [setAllV]
  | j :: js, [], t, _ => by simp [setAllV]
  | j :: js, u :: us, t, h => by
    rw [setAllV, wipe_setAll js us _ (fun k hk => h k (List.mem_cons_of_mem _ hk)), wipe_set (h j List.mem_cons_self)]
def Tgt.within : Tgt → List Nat → Bool
  | .nm i, vs => vs.contains i
  | .tp js, vs => js.all fun j => vs.contains j
theorem setT_okW {K : PySem.W.Frag} {G H : Hp} {m : Mem} {T : Tgt} {d : D} {v : V} {n : Nv} {t : L2.St} {vs : List Nat} {k : Nv → Prop} {Q : L2.St → Hp → Prop} (s : Sep K G m H) (r : Rep K G d v) (hn : RepN K G n t) (h : setT T d n k) (hw : T.within vs = true)
    (hk : ∀ n' t', RepN K G n' t' → wipe t' vs = wipe t vs → k n' → Q t' H) : gT K T v t H Q := by
  cases T with
  | nm i =>
    have hi : i ∈ vs := by simpa [Tgt.within] using hw
    exact hk _ _ (hn.set r i) (wipe_set hi) h
  | tp js =>
    have hi : ∀ j ∈ js, j ∈ vs := by simpa [Tgt.within] using hw
    obtain ⟨ds, rfl, hl, h⟩ := h
    cases r with
    | tup e r => exact ⟨_, _, rfl, SqT.of (s.sub _ _ e), by rw [← r.length]; exact hl, gNames_ok js _ t H Q (by rw [← r.length]; exact hl) (hk _ _ (setAll_rep js r hn) (wipe_setAll js _ t hi) h)⟩
abbrev W0 : WX := fun _ _ _ _ => False
abbrev xd0 : XD := fun _ _ _ _ => False
/-- the turns of a comprehension; P: where its list grows -/
def compD (T : Tgt) (tt : RT) (te : RE) (n : Nv) (P : Addr) (k : Mem → Prop) : List D → Mem → Prop
  | [], m => k m
  | x :: xs, m => setT T x n fun n2 => tt xd0 n2 m fun b m1 => if b = true then te xd0 n2 m1 fun d m2 => ∃ acc, m2 P = some (.lst acc) ∧ acc.length < sizeLine ∧ compD T tt te n P k xs (mset m2 P (.lst (acc ++ [d]))) else compD T tt te n P k xs m1
/-- [..]: won't change; may change -/
def rLc (ri : RI) (T : Tgt) (tt : RT) (te : RE) (vs : List Nat) : RE := fun xd n m q => ri xd n m fun ds m1 => ∀ P, m1 P = none → compD T tt te (wipeN n vs) P (fun m2 => ∃ acc, m2 P = some (.lst acc) ∧ q (.lst acc) (mdel m2 P)) ds (mset m1 P (.lst []))
def rLcO (ri : RI) (T : Tgt) (tt : RT) (te : RE) (vs : List Nat) : RE := fun xd n m q => ri xd n m fun ds m1 => ∀ P, m1 P = none → compD T tt te (wipeN n vs) P (fun m2 => q (.ref P) m2) ds (mset m1 P (.lst []))
theorem link0 {K : PySem.W.Frag} {G : Hp} : LinkX K W0 G xd0 := fun _ _ _ _ _ _ _ _ _ _ _ _ _ h => h
/-- the tests of a clause -/
def rYes : RT := fun _ _ m q => q true m
theorem lc_low {ri : RI} {T : Tgt} {tt : RT} {te : RE} {vs : List Nat} {kk : Addr → Mem → Prop} {Q : VK} {t : L2.St} {H : Hp} (hw : T.within vs = true) {n : Nv} {m : Mem} {G : Hp} {xd : XD} (hn : RepN X.K G n t) (hs : Sep X.K G m H) (hl : LinkX X.K W G xd)
    (hr : ri xd n m fun ds m1 => ∀ P, m1 P = none → compD T tt te (wipeN n vs) P (kk P) ds (mset m1 P (.lst [])))
    (hq : ∀ P m2 G2 H2, Same G G2 → Sep X.K G2 m2 H2 → kk P m2 → Q (.ref P) H2) :
    tLc (lowI X.K W ri) (gT X.K T) (lowT X.K W0 tt) (lowE X.K W0 te) vs t H Q := by
  refine ⟨n, m, G, xd, _, hn, hs, hl, hr, fun ds m1 G1 H1 J e1 s1 S k P hP => ?_⟩
  refine ⟨fun i z H => z = ds.length - i ∧ i ≤ ds.length ∧ ∃ m G', Same G1 G' ∧ Sep X.K G' m H ∧ compD T tt te (wipeN n vs) P (kk P) (ds.drop i) m, ⟨ds.length, by simp, Nat.zero_le _, _, G1, Same.refl _, s1.alloc hP (.lst .nil), k P (s1.freeM hP)⟩, ?_⟩
  rintro i z H2 ⟨rfl, hi, m2, G2, e2, s2, k2⟩
  by_cases hlt : i < ds.length
  · refine .inr ⟨S.go i H2 m2 G2 e2 s2 hlt, fun H' => ∃ m G', Same G1 G' ∧ Sep X.K G' m H' ∧ compD T tt te (wipeN n vs) P (kk P) (ds.drop (i + 1)) m, fun H' h => ⟨ds.length - (i + 1), by omega, rfl, hlt, h⟩, fun x H' y => ?_⟩
    obtain ⟨G3, d, ed, e3, s3, r3⟩ := S.yld i x H2 H' m2 G2 e2 s2 hlt y
    rw [List.drop_eq_getElem_cons hlt] at k2
    have ed' : ds[i] = d := by
      rw [List.getElem?_eq_getElem hlt] at ed
      exact Option.some.inj ed
    rw [ed', compD] at k2
    have e13 := e1.trans (e2.trans e3)
    refine setT_okW s3 r3 (wipe_rep (hn.mono e13) vs) k2 hw fun n' t' rn ew q => ⟨by rw [ew, wipe_wipe], ?_⟩
    refine ⟨n', m2, G3, xd0, _, rn, s3, link0, q, fun b m4 G4 H4 e4 s4 q4 => ?_⟩
    cases b with
    | true =>
      refine ⟨n', m4, G4, xd0, _, rn.mono e4, s4, link0, q4, fun d m5 v G5 H5 e5 s5 r5 ⟨acc, ma, hz, q5⟩ => ?_⟩
      obtain ⟨us, h1, r6⟩ := s5.lst ma
      exact ⟨us, h1, by rw [← r6.length]; exact hz, _, G5, e2.trans (e3.trans (e4.trans e5)), s5.write ma (.lst (r6.append (.cons r5 .nil))), q5⟩
    | false => exact ⟨m4, G4, e2.trans (e3.trans e4), s4, q4⟩
  · have e : i = ds.length := by omega
    subst e
    refine .inl ⟨S.stop H2 m2 G2 e2 s2, ?_⟩
    rw [List.drop_length, compD] at k2
    exact hq P m2 G2 H2 (e1.trans e2) s2 k2
abbrev DTs (X : Cx) (W : WX) (ifs : List Expr) (r : RT) : Prop := PTs X ifs (lowT X.K W r)
theorem PTs.imp {es : List Expr} {t u : TT} (h : PTs X es t) (i : ∀ s H Q, u s H Q → t s H Q) : PTs X es u := ⟨fun pins s σ H Q I q => h.run pins s σ H Q I (i σ H Q q)⟩
theorem dts_nil : DTs X W [] rYes := PTs.imp pts_nil fun t H Q ⟨n, m, G, xd, q, hn, hs, hl, hr, hq⟩ => hq true m G H (Same.refl G) hs hr
theorem dts_one {c : Expr} {rt : RT} (h : DT X W c rt) : DTs X W [c] rt := pts_one h
section
variable {elt tg iter : Expr} {ifs : List Expr} {scope : Scope} {own : List (Str × Nat)} {ri : RI} {T : Tgt} {tt : RT} {te : RE}
theorem frz_end {K : PySem.W.Frag} {G : Hp} {q : QD} {Q : VK} (hq : ∀ d m' v G' H', Same G G' → Sep K G' m' H' → Rep K G' d v → q d m' → Q v H') : ∀ P m2 G2 H2, Same G G2 → Sep K G2 m2 H2 → (∃ acc, m2 P = some (.lst acc) ∧ q (.lst acc) (mdel m2 P)) → Q (.ref P) H2 := fun P m2 G2 H2 e2 s2 ⟨acc, ma, k⟩ => by
  obtain ⟨us, h1, r1⟩ := s2.lst ma
  obtain ⟨s3, e3⟩ := s2.freeze ma h1
  exact hq _ _ _ _ H2 (e2.trans e3) s3 (.lst upd_same (r1.mono e3)) k
theorem own_end {K : PySem.W.Frag} {G : Hp} {q : QD} {Q : VK} (hq : ∀ d m' v G' H', Same G G' → Sep K G' m' H' → Rep K G' d v → q d m' → Q v H') : ∀ P m2 G2 H2, Same G G2 → Sep K G2 m2 H2 → q (.ref P) m2 → Q (.ref P) H2 := fun P m2 G2 H2 e2 s2 k => hq _ m2 _ G2 H2 e2 s2 (.ref P) k
theorem de_lc {vs : List Nat} (hc : X.calm = true) (hN : X.N.Nodup) (hi : DI X W tg iter ri) (ok : BlkOk X.N X.env.scope scope own) (hv : own.map (·.2) = vs) (hw : T.within vs = true)
    (hg : ∀ (s : Shared) (H : Hp) (C : Addr) (cl : List (Str × Addr)) (fp : List Addr), PG (X.blk s H scope (compEnvC scope cl C X.env) fp) tg (gT X.K T)) (ht : ∀ (s : Shared) (H : Hp) (C : Addr) (cl : List (Str × Addr)) (fp : List Addr), DTs (X.blk s H scope (compEnvC scope cl C X.env) fp) W0 ifs tt)
    (he : ∀ (s : Shared) (H : Hp) (C : Addr) (cl : List (Str × Addr)) (fp : List Addr), DE (X.blk s H scope (compEnvC scope cl C X.env) fp) W0 elt te) (hs : ∀ x, foldedSetIterable iter X.env x = pure x := by intro _; rfl) :
    DE X W (.ListComp elt [⟨tg, iter, ifs, 0⟩] scope pos) (rLc ri T tt te vs) := by
  subst hv
  exact PE.imp (pe_lc hc hN hi ok hg ht he hs) fun t H Q ⟨n, m, G, xd, q, hn, hs, hl, hr, hq⟩ =>
    lc_low hw hn hs hl hr (frz_end hq)
theorem de_lcO {vs : List Nat} (hc : X.calm = true) (hN : X.N.Nodup) (hi : DI X W tg iter ri) (ok : BlkOk X.N X.env.scope scope own) (hv : own.map (·.2) = vs) (hw : T.within vs = true)
    (hg : ∀ (s : Shared) (H : Hp) (C : Addr) (cl : List (Str × Addr)) (fp : List Addr), PG (X.blk s H scope (compEnvC scope cl C X.env) fp) tg (gT X.K T)) (ht : ∀ (s : Shared) (H : Hp) (C : Addr) (cl : List (Str × Addr)) (fp : List Addr), DTs (X.blk s H scope (compEnvC scope cl C X.env) fp) W0 ifs tt)
    (he : ∀ (s : Shared) (H : Hp) (C : Addr) (cl : List (Str × Addr)) (fp : List Addr), DE (X.blk s H scope (compEnvC scope cl C X.env) fp) W0 elt te) (hs : ∀ x, foldedSetIterable iter X.env x = pure x := by intro _; rfl) :
    DE X W (.ListComp elt [⟨tg, iter, ifs, 0⟩] scope pos) (rLcO ri T tt te vs) := by
  subst hv
  exact PE.imp (pe_lc hc hN hi ok hg ht he hs) fun t H Q ⟨n, m, G, xd, q, hn, hs, hl, hr, hq⟩ =>
    lc_low hw hn hs hl hr (own_end hq)
/-- y = [..] on one line -/
theorem ds_setLc {vs : List Nat} {i : Nat} {y : Str} {py spos : Pos} (hc : X.calm = true) (hN : X.N.Nodup) (hy : X.N[i]? = some y) (hyl : X.env.scope.names.lookup y = some .local)
    (hsw : swapsWith (.ListComp elt [⟨tg, iter, ifs, 0⟩] scope pos) (some (.Name y py)) spos.line X.env = pure true) (hi : DI X W tg iter ri) (ok : BlkOk X.N X.env.scope scope own) (hv : own.map (·.2) = vs) (hw : T.within vs = true)
    (hg : ∀ (s : Shared) (H : Hp) (C : Addr) (cl : List (Str × Addr)) (fp : List Addr), PG (X.blk s H scope (compEnvC scope cl C X.env) fp) tg (gT X.K T)) (ht : ∀ (s : Shared) (H : Hp) (C : Addr) (cl : List (Str × Addr)) (fp : List Addr), DTs (X.blk s H scope (compEnvC scope cl C X.env) fp) W0 ifs tt)
    (he : ∀ (s : Shared) (H : Hp) (C : Addr) (cl : List (Str × Addr)) (fp : List Addr), DE (X.blk s H scope (compEnvC scope cl C X.env) fp) W0 elt te) (hs : ∀ x, foldedSetIterable iter X.env x = pure x := by intro _; rfl) :
    DS X W (.Assign [.Name y py] (.ListComp elt [⟨tg, iter, ifs, 0⟩] scope pos) spos) (rSet (rLc ri T tt te vs) i) := by
  subst hv
  exact PS.imp (ps_setLc hc hN hy hyl hsw hi ok hg ht he hs) fun D t H ⟨n, m, G, xd, e, hn, hs, hl, hr, L⟩ =>
    lc_low hw hn hs hl hr (frz_end (q := fun d m1 => e.nx (n.set i (some d)) m1) fun d m1 v G1 H1 e1 s1 r1 k => L.nx _ m1 _ G1 H1 e1 s1 ((hn.mono e1).set r1 i) k)
theorem ds_setLcO {vs : List Nat} {i : Nat} {y : Str} {py spos : Pos} (hc : X.calm = true) (hN : X.N.Nodup) (hy : X.N[i]? = some y) (hyl : X.env.scope.names.lookup y = some .local)
    (hsw : swapsWith (.ListComp elt [⟨tg, iter, ifs, 0⟩] scope pos) (some (.Name y py)) spos.line X.env = pure true) (hi : DI X W tg iter ri) (ok : BlkOk X.N X.env.scope scope own) (hv : own.map (·.2) = vs) (hw : T.within vs = true)
    (hg : ∀ (s : Shared) (H : Hp) (C : Addr) (cl : List (Str × Addr)) (fp : List Addr), PG (X.blk s H scope (compEnvC scope cl C X.env) fp) tg (gT X.K T)) (ht : ∀ (s : Shared) (H : Hp) (C : Addr) (cl : List (Str × Addr)) (fp : List Addr), DTs (X.blk s H scope (compEnvC scope cl C X.env) fp) W0 ifs tt)
    (he : ∀ (s : Shared) (H : Hp) (C : Addr) (cl : List (Str × Addr)) (fp : List Addr), DE (X.blk s H scope (compEnvC scope cl C X.env) fp) W0 elt te) (hs : ∀ x, foldedSetIterable iter X.env x = pure x := by intro _; rfl) :
    DS X W (.Assign [.Name y py] (.ListComp elt [⟨tg, iter, ifs, 0⟩] scope pos) spos) (rSet (rLcO ri T tt te vs) i) := by
  subst hv
  exact PS.imp (ps_setLc hc hN hy hyl hsw hi ok hg ht he hs) fun D t H ⟨n, m, G, xd, e, hn, hs, hl, hr, L⟩ =>
    lc_low hw hn hs hl hr (own_end (q := fun d m1 => e.nx (n.set i (some d)) m1) fun d m1 v G1 H1 e1 s1 r1 k => L.nx _ m1 _ G1 H1 e1 s1 ((hn.mono e1).set r1 i) k)
end

/-! ### defs -/
abbrev SpD := List D → Mem → QD → XF → Prop
def LinkF (K : PySem.W.Frag) (E : XK) (G : Hp) (xf : XF) : Prop := ∀ (nm : Str) (c : Value) (fs : List (Str × D)) (o : Option Addr) (m : Mem) (G' H' : Hp), Same G G' → Sep K G' m H' → RepX K G' nm c fs o → xf nm fs m → E c o H'
def lowSp (K : PySem.W.Frag) (sp : SpD) : Sp := fun vs H Q E => ∃ (ds : List D) (m : Mem) (G : Hp) (q : QD) (xf : XF), Reps K G ds vs ∧ Sep K G m H ∧ sp ds m q xf ∧ lowQ K G q Q ∧ LinkF K E G xf
abbrev FnD (P : Program) (w : World) (K : PySem.W.Frag) (mg : Str → Option Value) (base : Heap) (k : Nat) (f : Addr) (fd : FuncData) (ps : List Str) (sp : SpD) : Prop := FnOk P w K mg base (L2.CX P w) k f fd ps (lowSp K sp)
def rCall (sp : SpD) (r : RA) : RE := fun xd n m q => r xd n m fun ds m1 => sp ds m1 q fun c fs m' => xd c fs n m'
/-- what a call lets out is taken -/
abbrev Pas (X : Cx) (W : WX) : Prop := ∀ σ, PassesAt (L2.CX X.prog X.w) X σ (WE W σ)
theorem pas0 : Pas X W0 := fun σ pins H s e s' I c => by
  obtain ⟨_, _, _, _, _, _, _, _, _, _, _, _, z⟩ := c
  exact z.elim
theorem lowCall {sp : SpD} {ra : RA} : ∀ t H Q, lowE X.K W (rCall sp ra) t H Q → tCallSD (lowSp X.K sp) [] (WE W) (lowA X.K W ra) t H Q := fun t H Q ⟨n, m, G, xd, q, hn, hs, hl, hr, hq⟩ =>
  ⟨n, m, G, xd, _, hn, hs, hl, hr, fun ds m1 vs G1 H1 e1 s1 r1 k => ⟨ds, m1, G1, q, _, by rw [List.append_nil]; exact r1, s1, k, fun d m' v G' H' e2 s2 r2 q2 => hq d m' v G' H' (e1.trans e2) s2 r2 q2, fun nm c fs o m' G' H' e2 s2 r2 q2 => hl nm c fs o n m' t G' H' (e1.trans e2) s2 (hn.mono (e1.trans e2)) r2 q2⟩⟩
theorem de_call {k : Nat} {f : Addr} {fd : FuncData} {ps : List Str} {sp : SpD} {x : Str} {p : Pos} {e : Expr} {es : List Expr} {ra : RA} (F : FnD X.prog X.w X.K X.mg X.base k f fd ps sp) (hr : Room k X.A) (hg : Gl X x) (hm : X.mg x = some (.ref f)) (hk : PySem.W.keepIn X.K (.ref f) = true) (hb : Binds X.K fd ps []) (hx : Pas X W)
    (ha : DA X W (e :: es) ra) (hdb : (x == ("__debug__" : Str)) = false := by decide) (he : starEach (e :: es) X.env = (false, eval e X.env) :: starEach es X.env := by rfl) (hpl : (backTo pos (starEach es X.env)).any (·.1) = false := by rfl) :
    DE X W (.Call (.Name x p) (e :: es) [] pos) (rCall sp ra) := PE.imp (pe_callSD (E := WE W) F hr hg hm hk hb .nil hx ha hdb he hpl) lowCall
end
section
variable {P : Program} {w : World} {K : PySem.W.Frag} {mg : Str → Option Value} {base : Heap}
/-- the names at a def's start -/
def nvs (N : List Str) (ds : List D) : Nv := ds.map some ++ List.replicate (N.length - ds.length) none
abbrev WF (E : XK) : WX := fun c d _ H => E c d H
/-- THE RULE for a def -/
theorem fnD {x qual : Str} {st : Stmt} {f : Addr} {fd : FuncData} {N ps : List Str} {k : Nat} {sp : SpD} (F : Fun K x qual st f fd) (S : FnScope N ps (defScope st)) (len : ∀ ds m q xf, sp ds m q xf → ds.length = ps.length)
    (hbody : ∀ (cdv : Value) (A : Around) (outer : List Env) (s : Shared) (H : Hp) (E : XK), Room k (A.deeper (envOfC qual (defScope st) s.heap.objs.size f cdv)) →
      ∃ r, DSs (cxOf (L2.CX P w) P w K mg base N qual (defScope st) f cdv A outer s H E) (WF E) (defBody st) r ∧ ∀ ds m q xf, sp ds m q xf → r (fun c fs _ m' => xf c fs m') { nx := fun _ m' => q .non m', rt := q } (nvs N ds) m) : FnD P w K mg base (k + 1) f fd ps sp := by
  refine F.okX S (fun vs H Q E ⟨ds, m, G, q, xf, hr, hs, h, _⟩ => by rw [← hr.length]; exact len ds m q xf h) fun cdv A outer s H vs Q E hr ⟨ds, m, G, q, xf, rs, hs, h, hq, hx⟩ => ?_
  obtain ⟨r, hd, hv⟩ := hbody cdv A outer s H E hr
  refine ⟨_, hd, _, m, G, _, _, ?_, hs, ?_, hv ds m q xf h, ?_⟩
  · unfold nvs L2.start
    rw [← rs.length]
    exact RepN.start _ rs
  · exact fun nm c fs o _ m' t G' H' e1 s1 _ r1 k => hx nm c fs o m' G' H' e1 s1 r1 k
  · exact ⟨fun n m' t G' H' e1 s1 _ k => hq .non m' .non G' H' e1 s1 .non k, fun d m' v G' H' e1 s1 r1 k => hq d m' v G' H' e1 s1 r1 k, fun _ _ _ _ _ _ _ _ k => k.elim, fun _ _ _ _ _ _ _ _ k => k.elim⟩
end
end DL

/-! DL6: list(text), isinstance, what is walked, calls by name -/
namespace DL
open PySem PySem.Spec PyProof.Rows L2
section
variable {prog : Program} {w : World} {A : Around} {E : Value → Shared → Prop} {s : Shared}
theorem hint_str {x : Str} {t : Tok} {Q : Bool → Shared → Prop} (h : Q false s) : wpAny (model prog w) A (Builtin.List.listLengthHint (.str x t)) Q E s := by
  have hT : s.TypeIs (.str x t) "str" := typeIs_str s x t
  unfold Builtin.List.listLengthHint
  refine wpAny_bind (wpAny_specialOf hT PySem.F.slot_str_len.lookup ?_)
  generalize hid : ("str.__len__" : String) = id0
  wp_delta
  rw [show splitId id0 = some ("str", "__len__") from by subst hid; decide +kernel]
  subst hid
  refine wpAny_bind (wpAny_isInstance (T := "str") (b := true) hT (by rw [isSubtype_type]; kernel_rfl) ?_)
  refine wpAny_ite_split (fun hab => absurd hab (by decide)) (fun _ => ?_)
  refine wpAny_ite_split (fun _ => ?_) (fun hab => absurd (by decide +kernel) hab)
  refine wpAny_bind (wpAny_typeOf hT ?_)
  exact wpAny_pure h
theorem text_extend {R : Result → Shared → Prop} {x : Str} {t : Tok} (hh : A.handled = none) (S : Addr) (res : Value) (c₀ : Nat) (hS : s.heap.get? S = some { cls := .type "list", data := .seq #[] c₀ })
    (hR : ∀ h' tk acc' c', (∀ b o, b ≠ S → s.heap.get? b = some o → h'.get? b = some o) → h'.get? S = some { cls := .type "list", dict := none, data := .seq acc' c', slots := #[] } → ItemsOf (SignAt x) acc' x.cps.size → R (.ok (.ret res)) { s with heap := h', toks := tk }) (hn : x.cps.size ≤ sizeLine) :
    wpAny (model prog w) A.in1 (Builtin.List.listExtendWith (.ref S) (.str x t) res)
      (fun fin s' => match fin with | .done f => R (.ok f) s' | .again c' => c'.quiet = true ∧ codeAny (model prog w) A c' R s') (fun e s' => R (.error e) s') s := by
  have hSI : S ≠ s.heap.objs.size := Nat.ne_of_lt (Heap.lt_size hS)
  have hSf : S ∉ [s.heap.objs.size] := by simpa using hSI
  have key : ∀ (St : Nat → Heap → Prop) (W : Walks prog w A.in1 s.heap.objs.size [s.heap.objs.size] [s.heap.objs.size] x.cps.size (SignAt x) St) (h : Heap) (c₁ tk : Nat), St 0 h → (∀ b o, b ≠ S → s.heap.get? b = some o → h.get? b = some o) →
      h.get? S = some { cls := .type "list", data := .seq #[] c₁ } → codeAny (model prog w) A (.builtin "list.extend.loop" ⟨[.ref S, .ref s.heap.objs.size, res], []⟩) R { s with heap := h, toks := tk } := by
    intro St W h c₁ tk hst hk hS₁
    refine codeAny_extend_loopS W.toS hn S hSf res x.cps.size 0 _ #[] c₁ rfl (Nat.zero_le _) hst hS₁ (ItemsOf.nil _) fun s' acc' c' hm hS' hacc => ?_
    rw [Moved.eq_with hm]
    refine hR s'.heap s'.toks acc' c' (fun b o hb e => hm.heap b o (fun hmem => ?_) (hk b o hb e)) hS' hacc
    rcases List.mem_cons.mp hmem with e' | hmem
    · exact hb e'
    · exact absurd (Heap.lt_size e) (by rw [List.mem_singleton.mp hmem]; exact Nat.lt_irrefl _)
  unfold Builtin.List.listExtendWith
  refine wpAny_bind (wpAny_typeOf (T := "str") (typeIs_str s x t) ?_)
  have h1 : Builtin.List.listSameRef (.ref S) (.str x t) = false := rfl
  have h2 : (Value.type "str" == Value.type "list") = false := by decide +kernel
  have h3 : (Value.type "str" == Value.type "tuple") = false := by decide +kernel
  simp only [h1, h2, h3, Bool.or_false, Bool.false_eq_true, if_false]
  refine wpAny_bind (wpAny_pyIter_str fun oI St W st => ?_)
  have W1 := W A.in1 hh
  have hS₁ := Heap.get?_push_of_some oI hS
  refine wpAny_bind (wpAny_holding (hint_str ?_))
  refine wpAny_ite_split (fun _ => ?_) (fun _ => wpAny_pure ⟨plainId_quiet PySem.F.plain_extend_loop _, key St W1 _ c₀ _ st (fun b o _ e => Heap.get?_push_of_some _ e) hS₁⟩)
  refine wpAny_bind (wpAny_rule ?_)
  refine wpAny_bind ?_
  show wpAny _ _ (updateSeq S (·.push .none) >>= fun _ => updateSeq S (·.pop)) _ _ _
  refine wpAny_bind (wpAny_updateSeq hS₁ rfl ?_)
  have hS₂ := Heap.get?_update_self (Obj.mapSeq (·.push Value.none)) hS₁ rfl
  refine wpAny_updateSeq (hz := by seq_fits) hS₂ rfl ?_
  have hS₃ := Heap.get?_update_self (Obj.mapSeq (·.pop)) hS₂ rfl
  refine wpAny_pure ⟨plainId_quiet PySem.F.plain_extend_loop _, key St W1 _ _ _ ?_ (fun b o hb e => ?_) hS₃⟩
  · refine W1.frame 0 _ _ st fun b hb o e => ?_
    have hbS : b ≠ S := fun h => hSf (h ▸ hb)
    exact (Heap.get?_update_other _ _ (Ne.symm hbS)).trans ((Heap.get?_update_other _ _ (Ne.symm hbS)).trans e)
  · exact (Heap.get?_update_other _ _ (Ne.symm hb)).trans ((Heap.get?_update_other _ _ (Ne.symm hb)).trans (Heap.get?_push_of_some _ e))
theorem call_list_text {x : Str} {t : Tok} {Q : Value → Shared → Prop} (hh : A.handled = none) (hn : x.cps.size ≤ sizeLine)
    (hQ : ∀ h' tk acc' c', (∀ b o, s.heap.get? b = some o → h'.get? b = some o) → h'.get? s.heap.objs.size = some { cls := .type "list", dict := none, data := .seq acc' c', slots := #[] } → ItemsOf (SignAt x) acc' x.cps.size → Q (.ref s.heap.objs.size) { s with heap := h', toks := tk }) :
    wpAny (model prog w) A (call (.type "list") [.str x t]) Q E s := by
  refine callType_codes (Q₁ := fun obj s₁ => obj = .ref s.heap.objs.size ∧ s₁ = { s with heap := s.heap.push { cls := .type "list", data := .seq #[] } }) PySem.F.called_list (PySem.F.typeCall_list_1 _) PySem.F.entry_list_init
    (code_list_new _ ⟨rfl, rfl⟩) fun obj s₁ h₁ => ?_
  obtain ⟨rfl, rfl⟩ := h₁
  have hS : (s.heap.push { cls := .type "list", data := .seq #[] }).get? s.heap.objs.size = some { cls := .type "list", data := .seq #[] } := Heap.get?_push_size _ rfl
  refine ⟨⟨_, hS, rfl⟩, PySem.F.args_list_init_2 _ _, ?_⟩
  show wpAny _ _ (do let old ← Builtin.List.listItems (.ref s.heap.objs.size); Builtin.List.listUpdate (.ref s.heap.objs.size) (fun _ => #[]); letGo old.toList.reverse; Builtin.List.listExtendWith (.ref s.heap.objs.size) (.str x t) .none) _ _ _
  refine wpAny_bind ?_
  unfold Builtin.List.listItems
  refine wpAny_bind (wpAny_seqItems hS rfl (wpAny_pure ?_))
  show wpAny _ _ (updateSeq s.heap.objs.size (fun _ => #[]) >>= fun _ => letGo (#[] : Array Value).toList.reverse >>= fun _ => Builtin.List.listExtendWith (.ref s.heap.objs.size) (.str x t) .none) _ _ _
  refine wpAny_bind (wpAny_updateSeq hS rfl ?_)
  have hS₂ := Heap.get?_update_self (Obj.mapSeq (fun _ => (#[] : Array Value))) hS rfl
  refine wpAny_bind (wpAny_letGo ?_)
  refine text_extend (A := A.in1) hh _ .none _ hS₂ (fun h' tk acc' c' hk hS' hacc => ?_) hn
  refine ⟨rfl, hQ h' tk acc' c' (fun b o e => ?_) hS' hacc⟩
  have ne : b ≠ s.heap.objs.size := Nat.ne_of_lt (Heap.lt_size e)
  exact hk b o ne ((Heap.get?_update_other _ _ (Ne.symm ne)).trans (Heap.get?_push_of_some _ e))
end
section
variable {X : Cx} {W : WX} {pos : Pos}
theorem vals_signs {x : Str} {acc : Array Value} (h : ItemsOf (SignAt x) acc x.cps.size) : Vals (x.cps.toList.map fun c => V.str ⟨#[c]⟩) acc.toList := by
  obtain ⟨hz, hi⟩ := h
  have key : ∀ (cs : List Nat) (us : List Value), cs.length = us.length → (∀ (j : Nat) u, us[j]? = some u → ∃ c tk, cs[j]? = some c ∧ u = .str ⟨#[c]⟩ tk) → Vals (cs.map fun c => V.str ⟨#[c]⟩) us := by
    intro cs
    induction cs with
    | nil =>
      intro us hl _
      cases us with
      | nil => exact .nil
      | cons _ _ => cases hl
    | cons c cs ih =>
      intro us hl hu
      cases us with
      | nil => cases hl
      | cons u us =>
        refine .cons ?_ (ih us (by simpa using hl) fun j u' e => ?_)
        · obtain ⟨c', tk, e1, e2⟩ := hu 0 u rfl
          simp at e1
          subst e1
          exact ⟨tk, e2⟩
        · obtain ⟨c', tk, e1, e2⟩ := hu (j + 1) u' (by simpa using e)
          exact ⟨c', tk, by simpa using e1, e2⟩
  refine key _ _ (by simp [hz]) fun j u e => ?_
  obtain ⟨c, tk, e1, e2⟩ := hi j u (by simpa using e)
  exact ⟨c, tk, by simpa using e1, e2⟩
theorem cr_listText (hc : X.calm = true) : CallR X (.type "list") (fun xs H Q => ∃ z : Str, xs = [.str z] ∧ z.length ≤ sizeLine ∧ ∀ l, H l = none → Q (.ref l) (upd H l (.lst (z.cps.toList.map fun c => V.str ⟨#[c]⟩)))) := by
  intro pins s σ H xs us Q I r h
  obtain ⟨z, rfl, hz, q⟩ := h
  obtain ⟨u, rfl, t, rfl⟩ := vals1 r
  refine call_list_text (I.ok.hd hc) hz fun h' tk acc c hk hS hacc => ?_
  have hn : H s.heap.objs.size = none := I.hok.fresh (Nat.le_refl _)
  have hv := vals_signs hacc
  have new : ObjOk X.prog X.w (upd H s.heap.objs.size (.lst (z.cps.toList.map fun c => V.str ⟨#[c]⟩))) h' s.heap.objs.size (.lst (z.cps.toList.map fun c => V.str ⟨#[c]⟩)) := by
    refine ⟨?_, acc.toList, c, hv, ?_⟩
    · rw [List.length_map]
      exact hz
    · simpa using hS
  exact ⟨.ref s.heap.objs.size, _, I.laid hk (Nat.le_refl _) new, rfl, q _ hn⟩
/-- list(x): also of a text -/
def gListA : List D → Mem → QD → Prop
  | [.str a], m, q => a.length ≤ sizeLine ∧ q (.lst (chars a)) m
  | [x], m, q => ∃ ds, seqOf x m = some ds ∧ q (.lst ds) m
  | _, m, q => False
def gListAO : List D → Mem → QD → Prop
  | [.str a], m, q => a.length ≤ sizeLine ∧ ∀ p, m p = none → q (.ref p) (mset m p (.lst (chars a)))
  | [x], m, q => ∃ ds, seqOf x m = some ds ∧ ∀ p, m p = none → q (.ref p) (mset m p (.lst ds))
  | _, m, q => False
theorem Reps.chars {K : PySem.W.Frag} {G : Hp} : ∀ a : List Nat, Reps K G (DL.chars a) (a.map fun c => V.str ⟨#[c]⟩)
  | [] => .nil
  | c :: a => .cons (.str [c]) (Reps.chars a)
theorem cd_listA (hc : X.calm = true) : CallR X (.type "list") (lowC X.K gListA) := crN (CallR.or (cr_listText hc) call_list_of) fun H G m ds vs q Q hr hs hg hq => by
  cases hr with
  | nil => exact False.elim hg
  | cons h r =>
    cases r with
    | cons _ _ => simp only [gListA] at hg
    | nil =>
      have fall : ∀ {x : D} {v : V}, Rep X.K G x v → (∃ ds, seqOf x m = some ds ∧ q (.lst ds) m) → ∃ p ys, [v] = [.ref p] ∧ (SqL X.K H p ys ∨ SqT X.K H p ys) ∧ ∀ l, H l = none → Q (.ref l) (upd H l (.lst ys)) := fun {x v} h ⟨ds, e1, k⟩ => by
        obtain ⟨p, vs, rfl, hp, ra⟩ := seq_at hs h e1
        refine ⟨p, vs, rfl, hp, fun l hl => ?_⟩
        obtain ⟨s2, e2⟩ := hs.laid hl (.lst vs)
        exact hq _ m _ _ _ e2 s2 (.lst upd_same (ra.mono e2)) k
      cases h with
      | str a =>
        refine .inl ⟨_, rfl, by rw [str_len]; exact hg.1, fun l hl => ?_⟩
        obtain ⟨s2, e2⟩ := hs.laid hl (.lst ((⟨a.toArray⟩ : Str).cps.toList.map fun c => V.str ⟨#[c]⟩))
        exact hq _ m _ _ _ e2 s2 (.lst upd_same (by simpa using (Reps.chars (K := X.K) a))) hg.2
      | tup e r => exact .inr (fall (.tup e r) hg)
      | scr e => exact .inr (fall (.scr e) hg)
      | non => exact .inr (fall .non hg)
      | bl b => exact .inr (fall (.bl b) hg)
      | int i => exact .inr (fall (.int i) hg)
      | ref a => exact .inr (fall (.ref a) hg)
      | ty n => exact .inr (fall (.ty n) hg)
      | lst e r => exact .inr (fall (.lst e r) hg)
      | ins c e r => exact .inr (fall (.ins c e r) hg)
      | exc c e r => exact .inr (fall (.exc c e r) hg)
      | exc0 c => exact .inr (fall (.exc0 c) hg)
      | dK e r => exact .inr (fall (.dK e r) hg)
      | dT e z l n r => exact .inr (fall (.dT e z l n r) hg)
theorem cd_listAO (hc : X.calm = true) : CallR X (.type "list") (lowC X.K gListAO) := crN (CallR.or (cr_listText hc) call_list_of) fun H G m ds vs q Q hr hs hg hq => by
  cases hr with
  | nil => exact False.elim hg
  | cons h r =>
    cases r with
    | cons _ _ => simp only [gListAO] at hg
    | nil =>
      have fall : ∀ {x : D} {v : V}, Rep X.K G x v → (∃ ds, seqOf x m = some ds ∧ ∀ p, m p = none → q (.ref p) (mset m p (.lst ds))) → ∃ p ys, [v] = [.ref p] ∧ (SqL X.K H p ys ∨ SqT X.K H p ys) ∧ ∀ l, H l = none → Q (.ref l) (upd H l (.lst ys)) := fun {x v} h ⟨ds, e1, k⟩ => by
        obtain ⟨p, vs, rfl, hp, ra⟩ := seq_at hs h e1
        exact ⟨p, vs, rfl, hp, fun l hl => hq _ _ _ _ _ (Same.refl _) (hs.alloc hl (.lst ra)) (.ref l) (k l (hs.freeM hl))⟩
      cases h with
      | str a => exact .inl ⟨_, rfl, by rw [str_len]; exact hg.1, fun l hl => hq _ _ _ _ _ (Same.refl _) (hs.alloc hl (.lst (by simpa using (Reps.chars (K := X.K) a)))) (.ref l) (hg.2 l (hs.freeM hl))⟩
      | tup e r => exact .inr (fall (.tup e r) hg)
      | scr e => exact .inr (fall (.scr e) hg)
      | non => exact .inr (fall .non hg)
      | bl b => exact .inr (fall (.bl b) hg)
      | int i => exact .inr (fall (.int i) hg)
      | ref a => exact .inr (fall (.ref a) hg)
      | ty n => exact .inr (fall (.ty n) hg)
      | lst e r => exact .inr (fall (.lst e r) hg)
      | ins c e r => exact .inr (fall (.ins c e r) hg)
      | exc c e r => exact .inr (fall (.exc c e r) hg)
      | exc0 c => exact .inr (fall (.exc0 c) hg)
      | dK e r => exact .inr (fall (.dK e r) hg)
      | dT e z l n r => exact .inr (fall (.dT e z l n r) hg)

/-! ### isinstance with a built-in class -/
def tyL : Option (List D) → Option String
  | some _ => some "list"
  | none => none
def tyD : D → Mem → Option String
  | .non, _ => some "NoneType"
  | .bl _, _ => some "bool"
  | .int _, _ => some "int"
  | .str _, _ => some "str"
  | .tup _, _ => some "tuple"
  | .dct t _, _ => if t = true then none else some "dict"
  | x, m => tyL (lstOf x m)
def isTy (a T : String) : Bool := a == T || (a == "bool" && T == "int")
theorem kitB_ok : ∀ a ∈ ["NoneType", "bool", "int", "str", "tuple", "list", "dict"], ∀ T ∈ ["str", "int", "bool", "list", "tuple", "dict"], kitB a T = some (isTy a T) := by decide +kernel
def gIsi : List D → Mem → QD → Prop
  | [x, .ty T], m, q => ∃ a, tyD x m = some a ∧ T ∈ ["str", "int", "bool", "list", "tuple", "dict"] ∧ q (.bl (isTy a T)) m
  | _, m, q => False
theorem tyD_ok {K : PySem.W.Frag} {G H : Hp} {m : Mem} {x : D} {v : V} {a : String} (s : Sep K G m H) (r : Rep K G x v) (h : tyD x m = some a) : TyX K H v (.type a) ∧ a ∈ ["NoneType", "bool", "int", "str", "tuple", "list", "dict"] := by
  have fall : ∀ {x : D} {v : V}, Rep K G x v → tyL (lstOf x m) = some a → TyX K H v (.type a) ∧ a ∈ ["NoneType", "bool", "int", "str", "tuple", "list", "dict"] := fun {x v} r h => by
    cases e : lstOf x m with
    | some ds =>
      rw [e] at h
      cases h
      obtain ⟨p, vs, rfl, hp, _⟩ := lst_at s r e
      exact ⟨.base (.lst hp), by decide⟩
    | none => rw [e] at h; cases h
  cases r with
  | non => cases h; exact ⟨.base .non, by decide⟩
  | bl b => cases h; exact ⟨.base (.bl b), by decide⟩
  | int i => cases h; exact ⟨.base (.int i), by decide⟩
  | str c => cases h; exact ⟨.base (.str _), by decide⟩
  | tup e r => cases h; exact ⟨.base (.tup (s.sub _ _ e)), by decide⟩
  | ref p => exact fall (.ref p) h
  | ty n => exact fall (.ty n) h
  | lst e r => exact fall (.lst e r) h
  | scr e => exact fall (.scr e) h
  | ins c e r => exact fall (.ins c e r) h
  | exc c e r => exact fall (.exc c e r) h
  | exc0 c => exact fall (.exc0 c) h
  | dK e r => cases h; exact ⟨.base (.dK (s.sub _ _ e)), by decide⟩
  | dT e z l n r => cases h
theorem cd_isi : CallR X (.builtin "isinstance") (lowC X.K gIsi) := crN call_isi fun H G m ds vs q Q hr hs hg hq => by
  unfold gIsi at hg
  split at hg
  · cases hr with
    | cons h r =>
      cases r with
      | cons h' r =>
        cases r
        cases h'
        obtain ⟨a, e, hT, k⟩ := hg
        obtain ⟨h1, h2⟩ := tyD_ok hs h e
        exact ⟨_, _, _, _, _, rfl, ClsV.ty _, h1, kit_ty (kitB_ok a h2 _ hT), hq.here hs (.bl _) k⟩
  · exact False.elim hg
end
end DL

/-! DL7: len(set(text)); what is walked; defs by name; f-strings -/
namespace DL
open PySem PySem.Spec PyProof.Rows L2
/-- the signs of a text, each once -/
def met1 (acc : List Nat) (c : Nat) : List Nat := if c ∈ acc then acc else acc ++ [c]
def met (cs : List Nat) : List Nat := cs.foldl met1 []
abbrev sgn (c : Nat) : Str := ⟨#[c]⟩
theorem sgn_inj {a b : Nat} : sgn a = sgn b ↔ a = b := by
  constructor
  · intro h
    have := congrArg (fun s : Str => s.cps.toList) h
    simpa using this
  · intro h; rw [h]
def metS (l : List Nat) (k : Str) : Bool := l.any fun c => sgn c == k
theorem metS_iff {l : List Nat} {c : Nat} : metS l (sgn c) = decide (c ∈ l) := by
  unfold metS
  rw [Bool.eq_iff_iff]
  simp only [List.any_eq_true, beq_iff_eq, decide_eq_true_eq]
  constructor
  · rintro ⟨x, h, e⟩
    rw [← sgn_inj.mp e]
    exact h
  · intro h
    exact ⟨c, h, rfl⟩
theorem metS_step (l : List Nat) (c : Nat) (k : Str) : metS (met1 l c) k = (metS l k || decide (k = sgn c)) := by
  unfold met1
  split
  · rename_i h
    by_cases e : k = sgn c
    · subst e
      rw [metS_iff, decide_eq_true h]
      rfl
    · rw [decide_eq_false e, Bool.or_false]
  · unfold metS
    rw [List.any_append]
    congr 1
    rw [Bool.eq_iff_iff]
    simp only [List.any_cons, List.any_nil, Bool.or_false, beq_iff_eq, decide_eq_true_eq]
    exact ⟨fun h => h.symm, fun h => h.symm⟩
theorem met1_len (l : List Nat) (c : Nat) : (met1 l c).length = if metS l (sgn c) = true then l.length else l.length + 1 := by
  rw [metS_iff]
  unfold met1
  by_cases h : c ∈ l
  · rw [if_pos h, if_pos (decide_eq_true h)]
  · rw [if_neg h, if_neg (by simpa using h), List.length_append, List.length_singleton]
theorem met_take (cs : List Nat) {i c : Nat} (h : cs[i]? = some c) : met (cs.take (i + 1)) = met1 (met (cs.take i)) c := by
  unfold met
  rw [List.take_add_one, h, List.foldl_append]
  rfl
theorem met1_le (l : List Nat) (c : Nat) : (met1 l c).length ≤ l.length + 1 := by
  rw [met1_len]
  split <;> omega
theorem foldl_met_le : ∀ (cs l : List Nat), (cs.foldl met1 l).length ≤ l.length + cs.length
  | [], l => by simp
  | c :: cs, l => by
    rw [List.foldl_cons]
    have h1 := foldl_met_le cs (met1 l c)
    have h2 := met1_le l c
    rw [List.length_cons]
    omega
theorem met_le (cs : List Nat) : (met cs).length ≤ cs.length := by
  have := foldl_met_le cs []
  simpa [met] using this
theorem foldl_met_eq : ∀ (cs l : List Nat), (cs.foldl met1 l).length = l.length + cs.length ↔ cs.Nodup ∧ ∀ c ∈ cs, c ∉ l
  | [], l => by simp
  | c :: cs, l => by
    rw [List.foldl_cons, List.length_cons]
    have h1 := foldl_met_le cs (met1 l c)
    by_cases h : c ∈ l
    · have e : met1 l c = l := if_pos h
      rw [e] at h1 ⊢
      constructor
      · intro z; omega
      · intro z; exact absurd h (z.2 c List.mem_cons_self)
    · have e : met1 l c = l ++ [c] := if_neg h
      have ih := foldl_met_eq cs (l ++ [c])
      rw [e]
      rw [List.length_append, List.length_singleton] at ih
      rw [show l.length + (cs.length + 1) = l.length + 1 + cs.length by omega, ih]
      rw [List.nodup_cons]
      constructor
      · rintro ⟨h2, h3⟩
        refine ⟨⟨fun z => ?_, h2⟩, fun x hx => ?_⟩
        · exact h3 c z (by simp)
        · rcases List.mem_cons.mp hx with z | z
          · rw [z]; exact h
          · exact fun q => h3 x z (by simp [q])
      · rintro ⟨⟨h2, h3⟩, h4⟩
        refine ⟨h3, fun x hx => ?_⟩
        simp only [List.mem_append, List.mem_singleton, not_or]
        exact ⟨h4 x (List.mem_cons_of_mem _ hx), fun z => h2 (z ▸ hx)⟩
theorem met_eq (cs : List Nat) : (met cs).length = cs.length ↔ cs.Nodup := by
  have := foldl_met_eq cs []
  simpa [met] using this
section
variable {prog : Program} {w : World} {A : Around} {E : Value → Shared → Prop} {s : Shared}
theorem set_loop {R : Result → Shared → Prop} {I : Addr} {fp wr : List Addr} {G : Array GenState → Array GenState → Prop} {x : Str} {St : Nat → Shared → Prop} (W : WalksS prog w A.in1 I fp wr G x.cps.size (SignAt x) St) (S : Addr) (hSf : S ∉ fp) (hb : x.cps.size + 1 < scanBound) :
    ∀ (k i : Nat) (s : Shared), x.cps.size - i = k → i ≤ x.cps.size → St i s →
      s.heap.SetOf (strKind prog w) S (metS (met (x.cps.toList.take i))) (met (x.cps.toList.take i)).length →
      (∀ s', Moved (S :: wr) G s s' → s'.heap.SetOf (strKind prog w) S (metS (met x.cps.toList)) (met x.cps.toList).length → R (.ok (.ret .none)) s') →
      codeAny (model prog w) A (.builtin "set.update.loop" ⟨[.ref S, .ref I], []⟩) R s := by
  have hSw : S ∉ wr := fun h => hSf (W.sub _ h)
  have hsub : ∀ b ∈ wr, b ∈ S :: wr := fun b hb => List.mem_cons_of_mem _ hb
  intro k
  induction k with
  | zero =>
    intro i s hk hi hst hS hR
    have hin : i = x.cps.size := by omega
    subst hin
    refine codeAny_builtin PyProof.Rows.F.entry_set_update_loop ?_
    rw [Around.under_plainId PyProof.Rows.F.plain_set_update_loop _]
    show wpAny _ A.in1 (pyNext (.ref I) >>= _) _ _ s
    refine wpAny_bind (W.done s _ _ hst fun s' hm => ?_)
    show wpAny _ A.in1 (ret Value.none) _ _ s'
    refine wpAny_pure (hR s' (hm.mono hsub) ?_)
    have e : x.cps.toList.take x.cps.size = x.cps.toList := by
      rw [← Array.length_toList, List.take_length]
    rw [e] at hS
    obtain ⟨o, es, ep, t, ho, rest⟩ := hS
    exact ⟨o, es, ep, t, hm.heap S _ hSw ho, rest⟩
  | succ k ih =>
    intro i s hk hi hst hS hR
    have hlt : i < x.cps.size := by omega
    refine codeAny_builtin PyProof.Rows.F.entry_set_update_loop ?_
    rw [Around.under_plainId PyProof.Rows.F.plain_set_update_loop _]
    show wpAny _ A.in1 (pyNext (.ref I) >>= _) _ _ s
    refine wpAny_bind (W.item i s _ _ hlt hst fun v s' hP hst' hm => ?_)
    obtain ⟨c, t, hc, rfl⟩ := hP
    have hS' : s'.heap.SetOf (strKind prog w) S (metS (met (x.cps.toList.take i))) (met (x.cps.toList.take i)).length := by
      obtain ⟨o, es, ep, tb, ho, rest⟩ := hS
      exact ⟨o, es, ep, tb, hm.heap S _ hSw ho, rest⟩
    show wpAny _ A.in1 (holding [Value.str (sgn c) t] (setAdd S (.str (sgn c) t)) >>= _) _ _ s'
    refine wpAny_bind (wpAny_holding ?_)
    unfold setAdd
    refine wpAny_holding ?_
    have hkey : (strKind prog w).is (sgn c) (.str (sgn c) t) = true := by
      show Value.isStrOf (sgn c) (.str (sgn c) t) = true
      simp [Value.isStrOf]
    refine wpAny_bind ((strKind prog w).pyHash (k := sgn c) hkey ?_)
    have hroom : (met (x.cps.toList.take i)).length + 1 < scanBound := by
      have h1 := met_le (x.cps.toList.take i)
      rw [List.length_take] at h1
      omega
    refine wpAny_setAddHashed_of (knd := strKind prog w) (s := { s' with toks := s'.toks + 1 }) hkey rfl hS' hroom fun h' hsb hS2 => ?_
    have hc' : x.cps.toList[i]? = some c := by simpa using hc
    have hSi : h'.SetOf (strKind prog w) S (metS (met (x.cps.toList.take (i + 1)))) (met (x.cps.toList.take (i + 1))).length :=
      SetOf_congr hS2 (fun k' => by rw [met_take _ hc', metS_step]) (by rw [met_take _ hc', met1_len])
    refine wpAny_pure ⟨plainId_quiet PyProof.Rows.F.plain_set_update_loop _, ih (i + 1) _ (by omega) hlt (W.frame _ s' _ _ hst' (Nat.le_succ _) fun b hb o e => ?_) hSi fun s'' hm'' hS'' => ?_⟩
    · rw [hsb.2 b (fun h : b = S => hSf (by rw [← h]; exact hb))]; exact e
    · refine hR s'' (Moved.trans W.gtrans ((hm.mono hsub).then_heap (Nat.le_succ _) fun b o hb e => ?_) hm'') hS''
      rw [hsb.2 b (fun h : b = S => hb (by rw [h]; exact List.mem_cons_self))]; exact e
set_option maxHeartbeats 6400000 in
theorem call_set_text {x : Str} {t : Tok} {Q : Value → Shared → Prop} (hh : A.handled = none) (hn : x.cps.size + 1 < scanBound)
    (h : ∀ (h' : Heap) (tk : Nat), h'.SetOf (PySem.strKind prog w) s.heap.objs.size (metS (met x.cps.toList)) (met x.cps.toList).length →
      (∀ b o, b < s.heap.objs.size → s.heap.get? b = some o → h'.get? b = some o) → Q (.ref s.heap.objs.size) { s with heap := h', toks := tk }) :
    wpAny (model prog w) A (call (.type "set") [.str x t]) Q E s := by
  obtain ⟨c, tl, hmro⟩ := PySem.F.called_set.mro
  have hmade := PySem.F.called_set.made
  have hsub := PySem.F.called_set.sub
  refine wpAny_call (codeAny_of_tree ?_)
  show wpAny _ _ (callAny (.type "set") _) _ _ _
  refine wpAny_pure ⟨Code.quiet_builtin _ (by decide +kernel), codeAny_builtin PySem.F.entry_type_call ?_⟩
  rw [Around.under_plain (weight_type_call_type "set" [.str x t] []) rfl]
  have h1 := PySem.F.called_set.notType
  have h2 := PySem.F.called_set.canCreate
  have hct := PySem.F.typeCall_set_1 (.str x t)
  repeat (any_goals (first | assumption | wp_step))
  refine codeAny_mono (code_set_new_1 (.str x t) (E := E) (Q₁ := fun obj s₁ => ∃ led : Bool, obj = .ref s.heap.objs.size ∧ s₁ = { s with heap := s.heap.push { cls := .type "set", dict := none, data := .set #[] 0 (.fresh 0 0 led) } }) fun led => ⟨led, rfl, rfl⟩) fun r s₁ hr => ?_
  cases r with
  | error e => exact hr
  | ok fl =>
    cases fl with
    | ret obj =>
      obtain ⟨led, rfl, rfl⟩ := hr
      have hS : (s.heap.push { cls := .type "set", dict := none, data := .set #[] 0 (.fresh 0 0 led) }).get? s.heap.objs.size = some { cls := .type "set", dict := none, data := .set #[] 0 (.fresh 0 0 led) } := Heap.get?_push_size _ rfl
      have hT : Shared.TypeIs { s with heap := s.heap.push { cls := .type "set", dict := none, data := .set #[] 0 (.fresh 0 0 led) } } (.ref s.heap.objs.size) "set" := ⟨_, hS, rfl⟩
      have hli := PySem.F.called_set.init.lookup
      have hbi := PySem.F.called_set.init.bind (.ref s.heap.objs.size)
      repeat (any_goals (first | assumption | wp_step))
      refine codeAny_mono (codeAny_call_builtin (R := wants (fun r s₂ => r = .none ∧ ∃ h' tk, s₂ = { s with heap := h', toks := tk } ∧
          h'.SetOf (PySem.strKind prog w) s.heap.objs.size (metS (met x.cps.toList)) (met x.cps.toList).length ∧
          (∀ b o, b < s.heap.objs.size → s.heap.get? b = some o → h'.get? b = some o)) E) PySem.F.called_set.init.plain PySem.F.entry_set_init (check_set_init_1 hT ?_)) fun r₂ s₂ hr₂ => ?_
      · have hsls := PySem.F.sub_str_set
        have hslf := PySem.F.sub_str_frozenset
        have hTx := typeIs_str { s with heap := s.heap.push { cls := .type "set", dict := none, data := .set #[] 0 (.fresh 0 0 led) } } x t
        unfold Builtin.«set.__init__» noKeywords Builtin.Frozenset.updateFrom
        generalize hPI : pyIter = PI
        wp_walk
        subst hPI
        refine wpAny_pyIter_str fun oI St W st => ?_
        refine wpAny_bind (wpAny_runValue ?_)
        have hh3 : A.in1.in1.in1.handled = none := by simp [hh]
        have hSf : s.heap.objs.size ∉ [(s.heap.push { cls := .type "set", dict := none, data := .set #[] 0 (.fresh 0 0 led) }).objs.size] := by
          rw [Heap.size_push]; simp only [List.mem_cons, List.mem_singleton, List.not_mem_nil, or_false]
          exact Nat.ne_of_lt (Nat.lt_succ_self _)
        refine set_loop ((W _ hh3).toS) s.heap.objs.size hSf hn (x.cps.size - 0) 0 _ (by omega) (Nat.zero_le _) st ?hS0 ?hR
        case hS0 =>
          have hget := Heap.get?_push_of_some oI hS
          exact PyProof.Rows.SetOf_congr ((PyProof.Rows.setObjOf_fresh (knd := PySem.strKind prog w) led).setOf hget (by unfold scanBound; omega)) (fun _ => rfl) rfl
        case hR =>
          intro s' hm hS'
          obtain ⟨h', g', d', tk', os'⟩ := s'
          have eg : g' = s.gens := hm.gens
          have ed : d' = s.drawn := hm.drawn
          have eo : os' = s.os := hm.os
          subst eg; subst ed; subst eo
          show wpAny _ _ _ _ _ _
          refine wpAny_pure ?_
          show wpAny _ _ (ret Value.none) _ _ _
          refine wpAny_pure ⟨rfl, h', tk', rfl, hS', fun b o hb e => ?_⟩
          have hb1 : b ≠ s.heap.objs.size := Nat.ne_of_lt hb
          have hb2 : b ≠ (s.heap.push { cls := .type "set", dict := none, data := .set #[] 0 (.fresh 0 0 led) }).objs.size := by
            rw [Heap.size_push]; exact Nat.ne_of_lt (Nat.lt_succ_of_lt hb)
          exact hm.heap b o (by simp only [List.mem_cons, List.mem_singleton, List.not_mem_nil, or_false, not_or]; exact ⟨hb1, hb2⟩) (Heap.get?_push_of_some _ (Heap.get?_push_of_some _ e))
      · cases r₂ with
        | error e => exact hr₂
        | ok fl₂ =>
          cases fl₂ with
          | ret r =>
            obtain ⟨rfl, h', tk, rfl, hS', hk'⟩ := hr₂
            repeat (any_goals (first | assumption | wp_step))
            exact h _ _ hS' hk'
          | _ => exact hr₂.elim
    | _ => exact hr.elim
end
section
variable {X : Cx} {W : WX} {pos : Pos} {a e : Expr} {ra re : RE}
def tLenSetT (ta : TE) : TE := fun σ H Q => ta σ H fun x H1 => ∃ z : Str, x = .str z ∧ z.length + 1 < scanBound ∧ Q (.int (met z.cps.toList).length) H1
theorem pe_lenSetT {ta : TE} {p p2 q : Pos} (hc : X.calm = true) (hg : Gl X "len") (hm : X.mg "len" = none) (hg2 : Gl X "set") (hm2 : X.mg "set" = none) (ha : PE X a ta)
    (na : starEach [a] X.env = (false, eval a X.env) :: starEach [] X.env := by rfl) : PE X (.Call (.Name "len" p) [.Call (.Name "set" p2) [a] [] q] [] pos) (tLenSetT ta) := by
  refine ⟨fun pins s σ H Q I h => ?_⟩
  refine Call_ (ld_blt I hg hm boot_len ?_)
  refine PyProof.Rows.callWith_builtin1 (PyProof.Rows.args_cons ?_ rfl) rfl rfl
  refine Call_ (ld_blt I hg2 hm2 boot_set ?_)
  refine PyProof.Rows.callWith_type1 (PyProof.Rows.args_cons (thn (ha.run pins s σ H _ I h) fun v s1 ⟨x, H1, I1, r1, q1⟩ => PyProof.Rows.args_nil ?_) na) na rfl
  obtain ⟨z, rfl, h1, q1⟩ := q1
  obtain ⟨t, rfl⟩ := r1
  refine call_set_text (I1.ok.hd hc) h1 fun h' tk hS hk => ?_
  refine PyProof.Rows.args_nil ?_
  obtain ⟨o, es, ep, t, ho, hex, hd, _, _, _, hf, hn⟩ := hS
  have I2 : L2.Inv X pins σ H1 { s1 with heap := h', toks := tk } := I1.kept fun b o e => hk b o (Heap.lt_size e) e
  have hle : (met z.cps.toList).length ≤ z.cps.size := Nat.le_trans (met_le z.cps.toList) (by simp)
  have hz : z.cps.size + 1 < 4096 := h1
  refine call_len_set ho hex hd hf (by rw [hn]; omega) ⟨.int (met z.cps.toList).length, H1, I2.tok _, ⟨_, by rw [hn]⟩, q1⟩
def rLenSet (r : RE) : RE := fun xd n m q => r xd n m fun d m1 => ∃ cs, d = .str cs ∧ cs.length ≤ 4000 ∧ q (.int (met cs).length) m1
theorem de_lenSet {p p2 q : Pos} (hc : X.calm = true) (hg : Gl X "len") (hm : X.mg "len" = none) (hg2 : Gl X "set") (hm2 : X.mg "set" = none) (ha : DE X W a ra)
    (na : starEach [a] X.env = (false, eval a X.env) :: starEach [] X.env := by rfl) : DE X W (.Call (.Name "len" p) [.Call (.Name "set" p2) [a] [] q] [] pos) (rLenSet ra) := PE.imp (pe_lenSetT hc hg hm hg2 hm2 ha na) fun t H Q ⟨n, m, G, xd, q, hn, hs, hl, hr, hq⟩ =>
  ⟨n, m, G, xd, _, hn, hs, hl, hr, fun d m1 v G1 H1 e1 s1 r1 ⟨cs, e, hz, k⟩ => by
    subst e
    cases r1
    refine ⟨_, rfl, ?_, ?_⟩
    · rw [str_len]
      show cs.length + 1 < 4096
      omega
    · simpa using hq _ m1 _ G1 H1 e1 s1 (.int _) k⟩

/-! ### whatever is walked: a list, a tuple, a text -/
def iAny (K : PySem.W.Frag) (tl : TE) : TI := fun σ H R => tl σ H fun x H1 => (∃ a, x = .ref a ∧ (∃ xs, SqL K H1 a xs) ∧ R (Itl K a) H1) ∨ (∃ a, x = .ref a ∧ (∃ xs, SqT K H1 a xs) ∧ R (Itt K a) H1) ∨ ∃ z, x = .str z ∧ R (Its z) H1
theorem pi_any {tg l : Expr} {tl : TE} (hl : PE X l tl) : PI X tg l (iAny X.K tl) := by
  refine ⟨fun pins s σ H R I h => ?_⟩
  refine thn (hl.run pins s σ H _ I h) fun v s1 ⟨x, H1, I1, r1, q1⟩ => ?_
  rcases q1 with ⟨a, e, ⟨xs, hq⟩, q⟩ | ⟨a, e, ⟨xs, hq⟩, q⟩ | ⟨z, e, q⟩
  · subst e
    cases r1
    obtain ⟨its, rv, p, hz⟩ := I1.list hq
    refine wpAny_pyIter_list p.isList ?_
    refine ⟨s1.heap.objs.size, [s1.heap.objs.size], _, _, H1, rfl, I1.kept (t' := s1.toks) fun b o e => Heap.get?_push_of_some _ e, turn_list a _, ⟨_, Heap.get?_push_size _ rfl, rfl, rfl⟩, fun b hb => ?_, q⟩
    have e : b = s1.heap.objs.size := by simpa using hb
    subst e
    exact I1.fpOk (Nat.le_refl _) (I1.hok.fresh (Nat.le_refl _))
  · subst e
    cases r1
    obtain ⟨its, rv, p, hz⟩ := I1.tuple hq
    refine wpAny_pyIter_tuple (show s1.heap.IsTuple a its.toArray from p) ?_
    refine ⟨s1.heap.objs.size, [s1.heap.objs.size], _, _, H1, rfl, I1.kept (t' := s1.toks) fun b o e => Heap.get?_push_of_some _ e, turn_tuple a _, ⟨_, Heap.get?_push_size _ rfl, rfl, rfl⟩, fun b hb => ?_, q⟩
    have e : b = s1.heap.objs.size := by simpa using hb
    subst e
    exact I1.fpOk (Nat.le_refl _) (I1.hok.fresh (Nat.le_refl _))
  · subst e
    obtain ⟨t, rfl⟩ := r1
    cases ha : z.cps.all (· < 128)
    · exact wpAny_pyIter_wide ha (pi_one (tk := s1.toks) I1 _ (turn_str _ z t "str_iterator" (.inr rfl)) ⟨_, Heap.get?_push_size _ rfl, rfl, rfl⟩ q)
    · exact wpAny_pyIter_ascii ha (pi_one (tk := s1.toks) I1 _ (turn_str _ z t "str_ascii_iterator" (.inl rfl)) ⟨_, Heap.get?_push_size _ rfl, rfl, rfl⟩ q)
/-- the items of what is walked -/
def gAllOf : D → Mem → (List D → Mem → Prop) → Prop
  | .lst ds, m1, q => q ds m1
  | .tup ds, m1, q => q ds m1
  | .str a, m1, q => q (chars a) m1
  | .ref p, m1, q => ∃ ds, m1 p = some (.lst ds) ∧ q ds (mdel m1 p)
  | _, _, _ => False
def rAll (r : RE) : RI := fun xd n m q => r xd n m fun d m1 => gAllOf d m1 q
theorem di_any {tg : Expr} (h : DE X W e re) : DI X W tg e (rAll re) := PI.imp (pi_any h) fun t H R ⟨n, m, G, xd, q, hn, hs, hl, hr, hq⟩ =>
  ⟨n, m, G, xd, _, hn, hs, hl, hr, fun d m1 v G1 H1 e1 s1 r1 k => by
    cases r1 with
    | lst e r => exact .inl ⟨_, rfl, ⟨_, SqL.of (s1.sub _ _ e)⟩, hq _ m1 G1 H1 _ e1 s1 (src_list e r) k⟩
    | tup e r => exact .inr (.inl ⟨_, rfl, ⟨_, SqT.of (s1.sub _ _ e)⟩, hq _ m1 G1 H1 _ e1 s1 (src_tup e r) k⟩)
    | str a => exact .inr (.inr ⟨_, rfl, hq _ m1 G1 H1 _ e1 s1 src_str k⟩)
    | ref p =>
      obtain ⟨ds, e, k⟩ := k
      obtain ⟨vs, h1, r1⟩ := s1.lst e
      obtain ⟨s2, e2⟩ := s1.freeze e h1
      exact .inl ⟨_, rfl, ⟨vs, SqL.of h1⟩, hq ds _ _ H1 _ (e1.trans e2) s2 (src_list upd_same (r1.mono e2)) k⟩
    | _ => exact False.elim k⟩

/-! ### defs by name -/
structure CalD (P : Program) (w : World) (K : PySem.W.Frag) (mg : Str → Option Value) (base : Heap) (k : Nat) (x : Str) (ps : List Str) (sp : SpD) : Prop where
  ex : ∃ f fd, FnD P w K mg base k f fd ps sp ∧ Binds K fd ps [] ∧ mg x = some (.ref f) ∧ PySem.W.keepIn K (.ref f) = true
theorem de_c1 {j k : Nat} {ps : List Str} {sp : SpD} {x : Str} {p : Pos} {e : Expr} {es : List Expr} {ra : RA} (c : CalD X.prog X.w X.K X.mg X.base k x ps sp) (hr : Room j X.A) (hk : k ≤ j) (hg : Gl X x) (hx : Pas X W)
    (ha : DA X W (e :: es) ra) (hdb : (x == ("__debug__" : Str)) = false := by decide) (he : starEach (e :: es) X.env = (false, eval e X.env) :: starEach es X.env := by rfl) (hpl : (backTo pos (starEach es X.env)).any (·.1) = false := by rfl) :
    DE X W (.Call (.Name x p) (e :: es) [] pos) (rCall sp ra) := by
  obtain ⟨f, fd, F, b, m, kp⟩ := c.ex
  exact de_call F (hr.mono hk) hg m kp b hx ha hdb he hpl
theorem CalD.imp {P : Program} {w : World} {K : PySem.W.Frag} {mg : Str → Option Value} {base : Heap} {k : Nat} {x : Str} {ps : List Str} {sp sp' : SpD} (c : CalD P w K mg base k x ps sp) (h : ∀ ds m q xf, sp' ds m q xf → sp ds m q xf) : CalD P w K mg base k x ps sp' := by
  obtain ⟨f, fd, F, b, m, kp⟩ := c.ex
  exact ⟨f, fd, F.imp fun vs H Q E ⟨ds, m, G, q, xf, r, s, z, a⟩ => ⟨ds, m, G, q, xf, r, s, h _ _ _ _ z, a⟩, b, m, kp⟩

/-! ### -i; truth -/
def rUn (g : D → Mem → QD → Prop) (r : RE) : RE := fun xd n m q => r xd n m fun d m1 => g d m1 q
def gNeg : D → Mem → QD → Prop
  | .int i, m, q => q (.int (-i)) m
  | _, m, q => False
theorem de_neg (ha : DE X W a ra) : DE X W (.UnaryOp .USub a pos) (rUn gNeg ra) := PE.imp (pe_un un_neg ha) fun t H Q ⟨n, m, G, xd, q, hn, hs, hl, hr, hq⟩ =>
  ⟨n, m, G, xd, _, hn, hs, hl, hr, fun d m1 v G1 H1 e1 s1 r1 k => by
    cases r1 with
    | int i => exact ⟨i, rfl, hq _ m1 _ G1 H1 e1 s1 (.int _) k⟩
    | _ => exact False.elim k⟩
/-- the truth of a value that is no bool -/
def truD : D → Mem → Option Bool
  | .non, _ => some false
  | .bl b, _ => some b
  | .int i, _ => some (i != 0)
  | .tup ds, _ => some (!ds.isEmpty)
  | x, m => (lstOf x m).map fun ds => !ds.isEmpty
def rTru (r : RE) : RT := fun xd n m q => r xd n m fun d m1 => ∃ b, truD d m1 = some b ∧ q b m1
theorem truD_ok {K : PySem.W.Frag} {G H : Hp} {m : Mem} {x : D} {v : V} {b : Bool} (s : Sep K G m H) (r : Rep K G x v) (h : truD x m = some b) : TruV K v H b := by
  have fall : ∀ {x : D} {v : V}, Rep K G x v → (lstOf x m).map (fun ds => !ds.isEmpty) = some b → TruV K v H b := fun {x v} r h => by
    rw [Option.map_eq_some_iff] at h
    obtain ⟨ds, e, rfl⟩ := h
    obtain ⟨p, vs, rfl, hp, ra⟩ := lst_at s r e
    refine .inl ⟨vs, SqL.of hp, ?_⟩
    cases ra <;> rfl
  cases r with
  | non => cases h; rfl
  | bl b => cases h; rfl
  | int i => cases h; rfl
  | tup e r =>
    cases h
    refine .inr (.inl ⟨_, SqT.of (s.sub _ _ e), ?_⟩)
    cases r <;> rfl
  | str c => exact fall (.str c) h
  | ref p => exact fall (.ref p) h
  | ty n => exact fall (.ty n) h
  | lst e r => exact fall (.lst e r) h
  | scr e => exact fall (.scr e) h
  | ins c e r => exact fall (.ins c e r) h
  | exc c e r => exact fall (.exc c e r) h
  | exc0 c => exact fall (.exc0 c) h
  | dK e r => exact fall (.dK e r) h
  | dT e z l n r => exact fall (.dT e z l n r) h
theorem dt_tru (ha : DE X W a ra) (he : ∀ whole, isTrue a X.env whole = (do let v ← whole; standAt a.pos; holding [v] (truthy v)) := by intro _; rfl) : DT X W a (rTru ra) := PT.imp (pt_truth ha he) fun t H Q ⟨n, m, G, xd, q, hn, hs, hl, hr, hq⟩ =>
  ⟨n, m, G, xd, _, hn, hs, hl, hr, fun d m1 v G1 H1 e1 s1 r1 ⟨b, e, k⟩ => ⟨b, truD_ok s1 r1 e, hq b m1 G1 H1 e1 s1 k⟩⟩

/-! ### f-strings of ints and texts -/
def gFmt : D → Mem → QD → Prop
  | .str a, m1, q => a.length ≤ sizeLine ∧ q (.str a) m1
  | .int i, m1, q => i.natAbs.log2 < 1920 ∧ q (.str (digs i)) m1
  | _, _, _ => False
def rFmt (r : RE) : RE := fun xd n m q => r xd n m fun d m1 => gFmt d m1 q
theorem de_fmt (ha : DE X W a ra) : DE X W (.FormattedValue a (-1) none pos) (rFmt ra) := PE.imp (pe_fmt ha) fun t H Q ⟨n, m, G, xd, q, hn, hs, hl, hr, hq⟩ =>
  ⟨n, m, G, xd, _, hn, hs, hl, hr, fun d m1 v G1 H1 e1 s1 r1 k => by
    cases r1 with
    | str c => exact .inl ⟨_, rfl, by rw [str_len]; exact k.1, hq _ m1 _ G1 H1 e1 s1 (.str c) k.2⟩
    | int i =>
      refine .inr ⟨i, rfl, k.1, ?_⟩
      have := hq _ m1 _ G1 H1 e1 s1 (.str (digs i)) k.2
      unfold digs at this
      rw [str_eta] at this
      exact this
    | _ => exact False.elim k⟩
inductive DJ (X : Cx) (W : WX) : List Expr → List RE → Prop where
  | nil : DJ X W [] []
  | cons {e : Expr} {r : RE} {es : List Expr} {rs : List RE} (h : DE X W e r) (q : DJ X W es rs) : DJ X W (e :: es) (r :: rs)
def rJs : List RE → List Nat → XD → Nv → Mem → (List Nat → Mem → Prop) → Prop
  | [], acc, _, _, m, q => q acc m
  | r :: rs, acc, xd, n, m, q => r xd n m fun d m1 => ∃ y, d = .str y ∧ (acc ++ y).length ≤ sizeLine ∧ rJs rs (acc ++ y) xd n m1 q
def rJoined (rs : List RE) : RE := fun xd n m q => rJs rs [] xd n m fun out m1 => q (.str out) m1
theorem DJ.pj {es : List Expr} {rs : List RE} (h : DJ X W es rs) : PJ X es (rs.map (lowE X.K W)) := by
  induction h with
  | nil => exact .nil
  | cons h q ih => exact .cons h ih
theorem js_low {Q : Str → Hp → Prop} {t : L2.St} {n : Nv} {xd : XD} {q : List Nat → Mem → Prop} : ∀ (rs : List RE) (acc : List Nat) (m : Mem) (G H : Hp), RepN X.K G n t → Sep X.K G m H → LinkX X.K W G xd → rJs rs acc xd n m q →
    (∀ out m' G' H', Same G G' → Sep X.K G' m' H' → q out m' → Q ⟨out.toArray⟩ H') → tJs (rs.map (lowE X.K W)) ⟨acc.toArray⟩ t H Q
  | [], acc, m, G, H, hn, hs, hl, hr, hq => hq acc m G H (Same.refl G) hs hr
  | r :: rs, acc, m, G, H, hn, hs, hl, hr, hq => ⟨n, m, G, xd, _, hn, hs, hl, hr, fun d m1 v G1 H1 e1 s1 r1 ⟨y, e, hz, k⟩ => by
    subst e
    cases r1
    refine ⟨_, rfl, by rw [str_app, str_len]; exact hz, ?_⟩
    rw [str_app]
    exact js_low rs (acc ++ y) m1 G1 H1 (hn.mono e1) s1 (hl.mono e1) k fun out m' G' H' e2 s2 q2 => hq out m' G' H' (e1.trans e2) s2 q2⟩
theorem de_joined {v1 v2 : Expr} {rest : List Expr} {rs : List RE} (h : DJ X W (v1 :: v2 :: rest) rs) : DE X W (.JoinedStr (v1 :: v2 :: rest) pos) (rJoined rs) := PE.imp (pe_joined h.pj) fun t H Q ⟨n, m, G, xd, q, hn, hs, hl, hr, hq⟩ =>
  js_low rs [] m G H hn hs hl hr fun out m' G' H' e1 s1 k => hq _ m' _ G' H' e1 s1 (.str out) k
end
end DL

/-! DL8: what is forgotten, loops by a word, comprehensions by a function, the constants and built-ins of the module -/
namespace DL
open PySem PySem.Spec PyProof.Rows L2

/-! ### objects forgotten, or known by a word alone -/
inductive MO.le : MO → MO → Prop
  | refl (o : MO) : MO.le o o
  | inv {P : List D → Prop} {ds : List D} : P ds → MO.le (.lst ds) (.inv P)
theorem RepO.le {K : PySem.W.Frag} {G : Hp} {p : Addr} {a b : MO} {u : HO} (r : RepO K G p a u) (h : MO.le a b) : RepO K G p b u := by
  cases h with
  | refl => exact r
  | inv p =>
    cases r with
    | lst r => exact .inv r p
theorem MO.le.trans {a b c : MO} (h : MO.le a b) (k : MO.le b c) : MO.le a c := by
  cases h with
  | refl => exact k
  | inv p =>
    cases k with
    | refl => exact .inv p
def Sub (m m' : Mem) : Prop := ∀ b z, m b = some z → ∃ y, m' b = some y ∧ MO.le y z
theorem Sub.refl (m : Mem) : Sub m m := fun _ z h => ⟨z, h, .refl z⟩
theorem Sub.trans {a b c : Mem} (h : Sub a b) (k : Sub b c) : Sub a c := fun x z e => by
  obtain ⟨y, e1, l1⟩ := h x z e
  obtain ⟨w, e2, l2⟩ := k x y e1
  exact ⟨w, e2, l2.trans l1⟩
theorem Sub.add {m m' : Mem} {p : Addr} {o : MO} (h : Sub m m') (hp : m p = none) : Sub m (mset m' p o) := fun b z e => by
  rw [mset_ne (mne e hp)]
  exact h b z e
theorem Sub.both {m m' : Mem} {p : Addr} {o : MO} (h : Sub m m') : Sub (mset m p o) (mset m' p o) := fun b z e => by
  by_cases hb : b = p
  · subst hb
    rw [mset_same] at e ⊢
    exact ⟨z, e, .refl z⟩
  · rw [mset_ne hb] at e ⊢
    exact h b z e
theorem Sub.del {m m' : Mem} {p : Addr} (h : Sub m m') (hp : m p = none) : Sub m (mdel m' p) := fun b z e => by
  unfold mdel
  rw [if_neg (mne e hp)]
  exact h b z e
theorem Sub.set {m m' : Mem} {p : Addr} {o o' : MO} (h : Sub m m') (hp : m p = some o) (hl : MO.le o' o) : Sub m (mset m' p o') := fun b z e => by
  by_cases hb : b = p
  · subst hb
    rw [mset_same]
    rw [hp] at e
    cases e
    exact ⟨o', rfl, hl⟩
  · rw [mset_ne hb]
    exact h b z e
theorem Sub.none {m m' : Mem} {p : Addr} (h : Sub m m') (hp : m' p = Option.none) : m p = Option.none := by
  cases q : m p with
  | none => rfl
  | some z =>
    obtain ⟨y, e, _⟩ := h p z q
    rw [e] at hp
    cases hp
theorem Sub.inv {m m' : Mem} {p : Addr} {P : List D → Prop} (h : Sub m m') (e : m p = some (.inv P)) : m' p = some (.inv P) ∨ ∃ ds, m' p = some (.lst ds) ∧ P ds := by
  obtain ⟨y, e1, l⟩ := h p _ e
  cases l with
  | refl => exact .inl e1
  | inv p => exact .inr ⟨_, e1, p⟩
theorem Sep.sub' {K : PySem.W.Frag} {G H : Hp} {m m' : Mem} (s : Sep K G m' H) (h : Sub m m') : Sep K G m H :=
  ⟨s.sub, fun b z e => by
    obtain ⟨y, e1, _⟩ := h b z e
    exact s.out b y e1, fun b z e => by
    obtain ⟨y, e1, l⟩ := h b z e
    obtain ⟨u, e2, r⟩ := s.own b y e1
    exact ⟨u, e2, r.le l⟩⟩
/-- a word about a list's items, looked into -/
def opn (m : Mem) (r : Mem → Prop) : Prop := ∃ b P, m b = some (.inv P) ∧ ∀ ds, P ds → r (mset m b (.lst ds))
theorem Sep.opn {K : PySem.W.Frag} {G H : Hp} {m : Mem} {b : Addr} {P : List D → Prop} (s : Sep K G m H) (h : m b = some (.inv P)) : ∃ ds, P ds ∧ Sep K G (mset m b (.lst ds)) H := by
  obtain ⟨u, e, r⟩ := s.own b _ h
  cases r with
  | inv r p =>
    refine ⟨_, p, s.sub, fun a z q => ?_, fun a z q => ?_⟩
    · by_cases ha : a = b
      · subst ha
        exact s.out a _ h
      · rw [mset_ne ha] at q
        exact s.out a z q
    · by_cases ha : a = b
      · subst ha
        rw [mset_same] at q
        cases q
        exact ⟨_, e, .lst r⟩
      · rw [mset_ne ha] at q
        exact s.own a z q

section
variable {P : Program} {w : World} {K : PySem.W.Frag} {mg : Str → Option Value} {base : Heap}
/-- what a def's body must come to -/
def rtD (q : QD) : QD := fun d m2 => ∃ m1, Sub m1 m2 ∧ q d m1
def enD (q : QD) : EN := { nx := fun _ m2 => rtD q .non m2, rt := rtD q }
def xdD (xf : XF) : XD := fun c fs _ m2 => ∃ m1, Sub m1 m2 ∧ xf c fs m1
/-- THE RULE for a def -/
theorem fnS {x qual : Str} {st : Stmt} {f : Addr} {fd : FuncData} {N ps : List Str} {k : Nat} {sp : SpD} (F : Fun K x qual st f fd) (S : FnScope N ps (defScope st)) (len : ∀ ds m q xf, sp ds m q xf → ds.length = ps.length)
    (hbody : ∀ (cdv : Value) (A : Around) (outer : List Env) (s : Shared) (H : Hp) (E : XK), Room k (A.deeper (envOfC qual (defScope st) s.heap.objs.size f cdv)) →
      ∃ r, DSs (cxOf (L2.CX P w) P w K mg base N qual (defScope st) f cdv A outer s H E) (WF E) (defBody st) r ∧ ∀ ds m q xf, sp ds m q xf → r (xdD xf) (enD q) (nvs N ds) m) : FnD P w K mg base (k + 1) f fd ps sp := by
  refine F.okX S (fun vs H Q E ⟨ds, m, G, q, xf, hr, hs, h, _⟩ => by rw [← hr.length]; exact len ds m q xf h) fun cdv A outer s H vs Q E hr ⟨ds, m, G, q, xf, rs, hs, h, hq, hx⟩ => ?_
  obtain ⟨r, hd, hv⟩ := hbody cdv A outer s H E hr
  refine ⟨_, hd, _, m, G, _, _, ?_, hs, ?_, hv ds m q xf h, ?_⟩
  · unfold nvs L2.start
    rw [← rs.length]
    exact RepN.start _ rs
  · exact fun nm c fs o _ m' t G' H' e1 s1 _ r1 ⟨m1, z, k⟩ => hx nm c fs o m1 G' H' e1 (s1.sub' z) r1 k
  · exact ⟨fun n m' t G' H' e1 s1 _ ⟨m1, z, k⟩ => hq .non m1 .non G' H' e1 (s1.sub' z) .non k, fun d m' v G' H' e1 s1 r1 ⟨m1, z, k⟩ => hq d m1 v G' H' e1 (s1.sub' z) r1 k, fun _ _ _ _ _ _ _ _ k => k.elim, fun _ _ _ _ _ _ _ _ k => k.elim⟩
/-- .. which looks into a word about a list first -/
theorem fnSo {x qual : Str} {st : Stmt} {f : Addr} {fd : FuncData} {N ps : List Str} {k : Nat} {sp : SpD} (F : Fun K x qual st f fd) (S : FnScope N ps (defScope st)) (len : ∀ ds m q xf, sp ds m q xf → ds.length = ps.length)
    (hbody : ∀ (cdv : Value) (A : Around) (outer : List Env) (s : Shared) (H : Hp) (E : XK), Room k (A.deeper (envOfC qual (defScope st) s.heap.objs.size f cdv)) →
      ∃ r, DSs (cxOf (L2.CX P w) P w K mg base N qual (defScope st) f cdv A outer s H E) (WF E) (defBody st) r ∧ ∀ ds m q xf, sp ds m q xf → opn m fun m' => r (xdD xf) (enD q) (nvs N ds) m') : FnD P w K mg base (k + 1) f fd ps sp := by
  refine F.okX S (fun vs H Q E ⟨ds, m, G, q, xf, hr, hs, h, _⟩ => by rw [← hr.length]; exact len ds m q xf h) fun cdv A outer s H vs Q E hr ⟨ds, m, G, q, xf, rs, hs, h, hq, hx⟩ => ?_
  obtain ⟨r, hd, hv⟩ := hbody cdv A outer s H E hr
  obtain ⟨b, Pb, hb, hv⟩ := hv ds m q xf h
  obtain ⟨es, pe, hs'⟩ := hs.opn hb
  refine ⟨_, hd, _, _, G, _, _, ?_, hs', ?_, hv es pe, ?_⟩
  · unfold nvs L2.start
    rw [← rs.length]
    exact RepN.start _ rs
  · exact fun nm c fs o _ m' t G' H' e1 s1 _ r1 ⟨m1, z, k⟩ => hx nm c fs o m1 G' H' e1 (s1.sub' z) r1 k
  · exact ⟨fun n m' t G' H' e1 s1 _ ⟨m1, z, k⟩ => hq .non m1 .non G' H' e1 (s1.sub' z) .non k, fun d m' v G' H' e1 s1 r1 ⟨m1, z, k⟩ => hq d m1 v G' H' e1 (s1.sub' z) r1 k, fun _ _ _ _ _ _ _ _ k => k.elim, fun _ _ _ _ _ _ _ _ k => k.elim⟩
theorem rt_same {q : QD} {d : D} {m : Mem} (h : q d m) : rtD q d m := ⟨m, Sub.refl m, h⟩
theorem rt_sub {q : QD} {d : D} {m m2 : Mem} (s : Sub m m2) (h : q d m) : rtD q d m2 := ⟨m, s, h⟩
end

/-! ### constants of the module, built-ins -/
section
variable {X : Cx} {W : WX} {pos : Pos}
theorem de_gstr {x : Str} {cs : List Nat} (hg : Gl X x) (hm : ∃ t, X.mg x = some (.str ⟨cs.toArray⟩ t)) (hd : (x == ("__debug__" : Str)) = false := by decide) : DE X W (.Name x pos) (rC (.str cs)) := by
  obtain ⟨t, e⟩ := hm
  exact de_glob (v := .str ⟨cs.toArray⟩) hg e ⟨t, rfl⟩ (fun _ => .str cs) hd
theorem de_gint {x : Str} {i : Int} (hg : Gl X x) (hm : ∃ t, X.mg x = some (.int i t)) (hd : (x == ("__debug__" : Str)) = false := by decide) : DE X W (.Name x pos) (rC (.int i)) := by
  obtain ⟨t, e⟩ := hm
  exact de_glob (v := .int i) hg e ⟨t, rfl⟩ (fun _ => .int i) hd
end
theorem bt_len : bootBuiltins "len" = some (.builtin "len") := by decide +kernel
theorem bt_abs : bootBuiltins "abs" = some (.builtin "abs") := by decide +kernel
theorem bt_all : bootBuiltins "all" = some (.builtin "all") := by decide +kernel
theorem bt_any : bootBuiltins "any" = some (.builtin "any") := by decide +kernel
theorem bt_max : bootBuiltins "max" = some (.builtin "max") := by decide +kernel
theorem bt_min : bootBuiltins "min" = some (.builtin "min") := by decide +kernel
theorem bt_isinstance : bootBuiltins "isinstance" = some (.builtin "isinstance") := by decide +kernel
theorem bt_int : bootBuiltins "int" = some (.type "int") := by decide +kernel
theorem bt_str : bootBuiltins "str" = some (.type "str") := by decide +kernel
theorem bt_bool : bootBuiltins "bool" = some (.type "bool") := by decide +kernel
theorem bt_list : bootBuiltins "list" = some (.type "list") := by decide +kernel
theorem bt_tuple : bootBuiltins "tuple" = some (.type "tuple") := by decide +kernel
theorem bt_dict : bootBuiltins "dict" = some (.type "dict") := by decide +kernel

/-! ### a list of one's own that won't change any more -/
def gFrz : D → Mem → QD → Prop
  | .ref p, m, q => ∃ ds, m p = some (.lst ds) ∧ q (.lst ds) (mdel m p)
  | d, m, q => q d m
def rFrz (r : RE) : RE := fun xd n m q => r xd n m fun d m1 => gFrz d m1 q
theorem de_frz {X : Cx} {W : WX} {e : Expr} {re : RE} (h : DE X W e re) : DE X W e (rFrz re) := PE.imp h fun t H Q ⟨n, m, G, xd, q, hn, hs, hl, hr, hq⟩ =>
  ⟨n, m, G, xd, _, hn, hs, hl, hr, fun d m1 v G1 H1 e1 s1 r1 k => by
    cases r1 with
    | ref p =>
      obtain ⟨ds, e, k⟩ := k
      obtain ⟨vs, h1, r1⟩ := s1.lst e
      obtain ⟨s2, e2⟩ := s1.freeze e h1
      exact hq _ _ _ _ H1 (e1.trans e2) s2 (.lst upd_same (r1.mono e2)) k
    | _ => exact hq _ m1 _ G1 H1 e1 s1 (by constructor <;> assumption) k⟩
/-! ### loops -/
/-- by cases of the rest: the turn is shown with what follows as it stands -/
theorem for_step {T : Tgt} {b : RS} {xd : XD} {e : EN} (J : List D → Nv → Mem → Prop) (hd : ∀ n m, J [] n m → e.nx n m)
    (hs : ∀ x xs n m, J (x :: xs) n m → ∀ k : Nv → Mem → Prop, (∀ n m, J xs n m → k n m) → setT T x n fun n1 => b xd ⟨k, e.rt, e.nx, k⟩ n1 m) : ∀ (xs : List D) (n : Nv) (m : Mem), J xs n m → forD T b xd xs e n m
  | [], n, m, h => by rw [forD]; exact hd n m h
  | x :: xs, n, m, h => by
    rw [forD]
    exact hs x xs n m h _ fun n m h => for_step J hd hs xs n m h
/-- one turn of a comprehension -/
def turnD (T : Tgt) (tt : RT) (te : RE) (n : Nv) (P : Addr) (k : Mem → Prop) (x : D) (m : Mem) : Prop := setT T x n fun n2 => tt xd0 n2 m fun b m1 => if b = true then te xd0 n2 m1 fun d m2 => ∃ acc, m2 P = some (.lst acc) ∧ acc.length < sizeLine ∧ k (mset m2 P (.lst (acc ++ [d]))) else k m1
theorem comp_step {T : Tgt} {tt : RT} {te : RE} {n : Nv} {P : Addr} {k : Mem → Prop} (J : List D → Mem → Prop) (hd : ∀ m, J [] m → k m) (hs : ∀ x xs m, J (x :: xs) m → ∀ kk : Mem → Prop, (∀ m', J xs m' → kk m') → turnD T tt te n P kk x m) :
    ∀ (xs : List D) (m : Mem), J xs m → compD T tt te n P k xs m
  | [], m, h => by rw [compD]; exact hd m h
  | x :: xs, m, h => by
    rw [compD]
    exact hs x xs m h _ fun m' h' => comp_step J hd hs xs m' h'
/-- the list behind one more turn -/
def addO (acc : List D) : Option D → List D
  | some d => acc ++ [d]
  | none => acc
/-- a comprehension whose turn is a function of the item and changes nothing else: f x = none leaves x out -/
theorem comp_fn {T : Tgt} {tt : RT} {te : RE} {n : Nv} {P : Addr} {k : Mem → Prop} {m : Mem} (f : D → Option D) : ∀ (xs acc : List D), acc.length + xs.length ≤ 16000000 →
    (∀ x ∈ xs, ∀ acc : List D, acc.length < sizeLine → ∀ kk : Mem → Prop, kk (mset m P (.lst (addO acc (f x)))) → turnD T tt te n P kk x (mset m P (.lst acc))) →
    k (mset m P (.lst (acc ++ xs.filterMap f))) → compD T tt te n P k xs (mset m P (.lst acc))
  | [], acc, _, _, hk => by
    rw [compD]
    simpa using hk
  | x :: xs, acc, hl, hs, hk => by
    rw [compD]
    rw [List.length_cons] at hl
    have hsz : sizeLine = 16777216 := sizeLine_eq
    refine hs x List.mem_cons_self acc (by omega) _ ?_
    have hl' : (addO acc (f x)).length + xs.length ≤ 16000000 := by
      cases f x <;> simp [addO] <;> omega
    refine comp_fn f xs _ hl' (fun y hy => hs y (List.mem_cons_of_mem _ hy)) ?_
    cases e : f x with
    | none =>
      rw [List.filterMap_cons_none e] at hk
      exact hk
    | some d =>
      rw [List.filterMap_cons_some e] at hk
      simpa [addO] using hk
theorem put_ok {m : Mem} {P : Addr} {acc : List D} {d : D} {kk : Mem → Prop} (hl : acc.length < sizeLine) (h : kk (mset m P (.lst (acc ++ [d])))) : ∃ a, mset m P (.lst acc) P = some (.lst a) ∧ a.length < sizeLine ∧ kk (mset (mset m P (.lst acc)) P (.lst (a ++ [d]))) :=
  ⟨acc, mset_same, hl, by rw [mset_mset]; exact h⟩
/-- .. the list it gives -/
theorem comp_go {T : Tgt} {tt : RT} {te : RE} {n : Nv} {m : Mem} {ds : List D} {k : Addr → Mem → Prop} (f : D → Option D) (hl : ds.length ≤ 16000000)
    (hs : ∀ P, m P = none → ∀ x ∈ ds, ∀ acc : List D, acc.length < sizeLine → ∀ kk : Mem → Prop, kk (mset m P (.lst (addO acc (f x)))) → turnD T tt te n P kk x (mset m P (.lst acc)))
    (hk : ∀ P, m P = none → k P (mset m P (.lst (ds.filterMap f)))) : ∀ P, m P = none → compD T tt te n P (k P) ds (mset m P (.lst [])) := fun P hP =>
  comp_fn f ds [] (by simpa using hl) (hs P hP) (by rw [List.nil_append]; exact hk P hP)
end DL

/-! DL9: what an operation gives on data of known make -/
namespace DL
open PySem PySem.Spec PyProof.Rows L2
section
variable {i j k : Int} {a b : List Nat} {c : Nat} {ds es fs : List D} {m : Mem} {q : QD} {x y z : D} {p p' : Addr} {bb b2 : Bool} {ns : List Int} {f : Bool → Bool} {C : Int → Int → Prop} {g : Int → Int → Int} {P : Int → Int → Bool} {R : List Nat → List Nat → Bool} {T : String} {lo hi : Option Int} {r : List D → Mem → Prop} {o : D} {ks ls : List (D × D)}
theorem ev0 : gAdd (.int i) (.int j) m q = q (.int (i + j)) m := rfl
theorem ev1 : gAdd (.str a) (.str b) m q = (a.length + b.length ≤ sizeLine ∧ q (.str (a ++ b)) m) := rfl
theorem ev2 : gAdd (.lst ds) (.lst es) m q = (∃ xs ys, lstOf (.lst ds) m = some xs ∧ lstOf (.lst es) m = some ys ∧ xs.length + ys.length ≤ sizeLine ∧ q (.lst (xs ++ ys)) m) := rfl
theorem ev3 : gAdd (.lst ds) (.ref p') m q = (∃ xs ys, lstOf (.lst ds) m = some xs ∧ lstOf (.ref p') m = some ys ∧ xs.length + ys.length ≤ sizeLine ∧ q (.lst (xs ++ ys)) m) := rfl
theorem ev4 : gAdd (.ref p) (.lst es) m q = (∃ xs ys, lstOf (.ref p) m = some xs ∧ lstOf (.lst es) m = some ys ∧ xs.length + ys.length ≤ sizeLine ∧ q (.lst (xs ++ ys)) m) := rfl
theorem ev5 : gAdd (.ref p) (.ref p') m q = (∃ xs ys, lstOf (.ref p) m = some xs ∧ lstOf (.ref p') m = some ys ∧ xs.length + ys.length ≤ sizeLine ∧ q (.lst (xs ++ ys)) m) := rfl
theorem ev6 : gSub (.int i) (.int j) m q = q (.int (i - j)) m := rfl
theorem ev7 : gI C g (.int i) (.int j) m q = (C i j ∧ q (.int (g i j)) m) := rfl
theorem ev8 : gMul (.int i) (.int j) m q = (CMul i j ∧ q (.int (i * j)) m) := rfl
theorem ev9 : gMul (.str a) (.int k) m q = ((-(2 ^ 63) ≤ k ∧ k < 2 ^ 62 ∧ a.length * k.toNat ≤ sizeLine) ∧ q (.str (reps k a)) m) := rfl
theorem ev10 : gMul (.lst ds) (.int k) m q = (∃ xs, lstOf (.lst ds) m = some xs ∧ (-(2 ^ 63) ≤ k ∧ k < 2 ^ 63 ∧ xs.length * k.toNat ≤ sizeLine) ∧ q (.lst (reps k xs)) m) := rfl
theorem ev11 : gMul (.ref p) (.int k) m q = (∃ xs, lstOf (.ref p) m = some xs ∧ (-(2 ^ 63) ≤ k ∧ k < 2 ^ 63 ∧ xs.length * k.toNat ≤ sizeLine) ∧ q (.lst (reps k xs)) m) := rfl
theorem ev12 : gCmp P R (.int i) (.int j) m q = q (.bl (P i j)) m := rfl
theorem ev13 : gCmp P R (.str a) (.str b) m q = q (.bl (R a b)) m := rfl
theorem ev14 : gIAdd (.int i) (.int j) m q = q (.int (i + j)) m := rfl
theorem ev15 : gIAdd (.str a) (.str b) m q = (a.length + b.length ≤ sizeLine ∧ q (.str (a ++ b)) m) := rfl
theorem ev16 : gEqB f (.int i) (.int j) m q = q (.bl (f (decide (i = j)))) m := rfl
theorem ev17 : gEqB f (.str a) (.str b) m q = q (.bl (f (decide (a = b)))) m := rfl
theorem ev18 : gEqB f (.bl bb) (.bl b2) m q = q (.bl (f (decide (bb = b2)))) m := rfl
theorem ev19 : gEqB f .non .non m q = q (.bl (f true)) m := rfl
theorem ev20 : gEqB f (.non) (.int j) m q = q (.bl (f false)) m := rfl
theorem ev21 : gEqB f (.non) (.str b) m q = q (.bl (f false)) m := rfl
theorem ev22 : gEqB f (.non) (.bl b2) m q = q (.bl (f false)) m := rfl
theorem ev23 : gEqB f (.int i) (.non) m q = q (.bl (f false)) m := rfl
theorem ev24 : gEqB f (.str a) (.non) m q = q (.bl (f false)) m := rfl
theorem ev25 : gEqB f (.bl bb) (.non) m q = q (.bl (f false)) m := rfl
theorem ev26 : gEqB f (.int i) (.str b) m q = q (.bl (f false)) m := rfl
theorem ev27 : gEqB f (.str a) (.int j) m q = q (.bl (f false)) m := rfl
theorem ev28 : gEqB f (.bl bb) (.str b) m q = q (.bl (f false)) m := rfl
theorem ev29 : gEqB f (.str a) (.bl b2) m q = q (.bl (f false)) m := rfl
theorem ev30 : gEq (.non) y m q = gEqB (fun b => b) (.non) y m q := rfl
theorem ev31 : gEq (.bl bb) y m q = gEqB (fun b => b) (.bl bb) y m q := rfl
theorem ev32 : gEq (.int i) y m q = gEqB (fun b => b) (.int i) y m q := rfl
theorem ev33 : gEq (.str a) y m q = gEqB (fun b => b) (.str a) y m q := rfl
theorem ev34 : gEq (.tup ds) y m q = gEqB (fun b => b) (.tup ds) y m q := rfl
theorem ev35 : gEq (.lst ds) y m q = gEqB (fun b => b) (.lst ds) y m q := rfl
theorem ev36 : gEq (.ref p) y m q = gEqB (fun b => b) (.ref p) y m q := rfl
theorem ev37 : gEq (.dct b2 ks) (.dct bb ls) m q = (b2 = false ∧ bb = false ∧ ks = ls ∧ (ks.all fun p => sca p.2) = true ∧ (ks.map fun p => keyOf p.1).Nodup ∧ q (.bl true) m) := rfl
theorem ev38 : gEqB f (.lst ds) (.lst es) m q = (fl 60 (seen (.lst ds) m) = true ∧ fl 60 (seen (.lst es) m) = true ∧ q (.bl (f (eqD (seen (.lst ds) m) (seen (.lst es) m)))) m) := rfl
theorem ev39 : gEqB f (.lst ds) (.tup es) m q = (fl 60 (seen (.lst ds) m) = true ∧ fl 60 (seen (.tup es) m) = true ∧ q (.bl (f (eqD (seen (.lst ds) m) (seen (.tup es) m)))) m) := rfl
theorem ev40 : gEqB f (.lst ds) (.ref p') m q = (fl 60 (seen (.lst ds) m) = true ∧ fl 60 (seen (.ref p') m) = true ∧ q (.bl (f (eqD (seen (.lst ds) m) (seen (.ref p') m)))) m) := rfl
theorem ev41 : gEqB f (.tup ds) (.lst es) m q = (fl 60 (seen (.tup ds) m) = true ∧ fl 60 (seen (.lst es) m) = true ∧ q (.bl (f (eqD (seen (.tup ds) m) (seen (.lst es) m)))) m) := rfl
theorem ev42 : gEqB f (.tup ds) (.tup es) m q = (fl 60 (seen (.tup ds) m) = true ∧ fl 60 (seen (.tup es) m) = true ∧ q (.bl (f (eqD (seen (.tup ds) m) (seen (.tup es) m)))) m) := rfl
theorem ev43 : gEqB f (.tup ds) (.ref p') m q = (fl 60 (seen (.tup ds) m) = true ∧ fl 60 (seen (.ref p') m) = true ∧ q (.bl (f (eqD (seen (.tup ds) m) (seen (.ref p') m)))) m) := rfl
theorem ev44 : gEqB f (.ref p) (.lst es) m q = (fl 60 (seen (.ref p) m) = true ∧ fl 60 (seen (.lst es) m) = true ∧ q (.bl (f (eqD (seen (.ref p) m) (seen (.lst es) m)))) m) := rfl
theorem ev45 : gEqB f (.ref p) (.tup es) m q = (fl 60 (seen (.ref p) m) = true ∧ fl 60 (seen (.tup es) m) = true ∧ q (.bl (f (eqD (seen (.ref p) m) (seen (.tup es) m)))) m) := rfl
theorem ev46 : gEqB f (.ref p) (.ref p') m q = (fl 60 (seen (.ref p) m) = true ∧ fl 60 (seen (.ref p') m) = true ∧ q (.bl (f (eqD (seen (.ref p) m) (seen (.ref p') m)))) m) := rfl
theorem ev47 : gEqB f (.lst ds) (.int j) m q = (fl 60 (seen (.lst ds) m) = true ∧ fl 60 (seen (.int j) m) = true ∧ q (.bl (f (eqD (seen (.lst ds) m) (seen (.int j) m)))) m) := rfl
theorem ev48 : gEqB f (.lst ds) (.str b) m q = (fl 60 (seen (.lst ds) m) = true ∧ fl 60 (seen (.str b) m) = true ∧ q (.bl (f (eqD (seen (.lst ds) m) (seen (.str b) m)))) m) := rfl
theorem ev49 : gEqB f (.lst ds) (.bl b2) m q = (fl 60 (seen (.lst ds) m) = true ∧ fl 60 (seen (.bl b2) m) = true ∧ q (.bl (f (eqD (seen (.lst ds) m) (seen (.bl b2) m)))) m) := rfl
theorem ev50 : gEqB f (.lst ds) (.non) m q = (fl 60 (seen (.lst ds) m) = true ∧ fl 60 (seen (.non) m) = true ∧ q (.bl (f (eqD (seen (.lst ds) m) (seen (.non) m)))) m) := rfl
theorem ev51 : gEqB f (.tup ds) (.int j) m q = (fl 60 (seen (.tup ds) m) = true ∧ fl 60 (seen (.int j) m) = true ∧ q (.bl (f (eqD (seen (.tup ds) m) (seen (.int j) m)))) m) := rfl
theorem ev52 : gEqB f (.tup ds) (.str b) m q = (fl 60 (seen (.tup ds) m) = true ∧ fl 60 (seen (.str b) m) = true ∧ q (.bl (f (eqD (seen (.tup ds) m) (seen (.str b) m)))) m) := rfl
theorem ev53 : gEqB f (.tup ds) (.bl b2) m q = (fl 60 (seen (.tup ds) m) = true ∧ fl 60 (seen (.bl b2) m) = true ∧ q (.bl (f (eqD (seen (.tup ds) m) (seen (.bl b2) m)))) m) := rfl
theorem ev54 : gEqB f (.tup ds) (.non) m q = (fl 60 (seen (.tup ds) m) = true ∧ fl 60 (seen (.non) m) = true ∧ q (.bl (f (eqD (seen (.tup ds) m) (seen (.non) m)))) m) := rfl
theorem ev55 : gEqB f (.ref p) (.int j) m q = (fl 60 (seen (.ref p) m) = true ∧ fl 60 (seen (.int j) m) = true ∧ q (.bl (f (eqD (seen (.ref p) m) (seen (.int j) m)))) m) := rfl
theorem ev56 : gEqB f (.ref p) (.str b) m q = (fl 60 (seen (.ref p) m) = true ∧ fl 60 (seen (.str b) m) = true ∧ q (.bl (f (eqD (seen (.ref p) m) (seen (.str b) m)))) m) := rfl
theorem ev57 : gEqB f (.ref p) (.bl b2) m q = (fl 60 (seen (.ref p) m) = true ∧ fl 60 (seen (.bl b2) m) = true ∧ q (.bl (f (eqD (seen (.ref p) m) (seen (.bl b2) m)))) m) := rfl
theorem ev58 : gEqB f (.ref p) (.non) m q = (fl 60 (seen (.ref p) m) = true ∧ fl 60 (seen (.non) m) = true ∧ q (.bl (f (eqD (seen (.ref p) m) (seen (.non) m)))) m) := rfl
theorem ev59 : gEqB f (.int i) (.lst es) m q = (fl 60 (seen (.int i) m) = true ∧ fl 60 (seen (.lst es) m) = true ∧ q (.bl (f (eqD (seen (.int i) m) (seen (.lst es) m)))) m) := rfl
theorem ev60 : gEqB f (.int i) (.tup es) m q = (fl 60 (seen (.int i) m) = true ∧ fl 60 (seen (.tup es) m) = true ∧ q (.bl (f (eqD (seen (.int i) m) (seen (.tup es) m)))) m) := rfl
theorem ev61 : gEqB f (.int i) (.ref p') m q = (fl 60 (seen (.int i) m) = true ∧ fl 60 (seen (.ref p') m) = true ∧ q (.bl (f (eqD (seen (.int i) m) (seen (.ref p') m)))) m) := rfl
theorem ev62 : gEqB f (.str a) (.lst es) m q = (fl 60 (seen (.str a) m) = true ∧ fl 60 (seen (.lst es) m) = true ∧ q (.bl (f (eqD (seen (.str a) m) (seen (.lst es) m)))) m) := rfl
theorem ev63 : gEqB f (.str a) (.tup es) m q = (fl 60 (seen (.str a) m) = true ∧ fl 60 (seen (.tup es) m) = true ∧ q (.bl (f (eqD (seen (.str a) m) (seen (.tup es) m)))) m) := rfl
theorem ev64 : gEqB f (.str a) (.ref p') m q = (fl 60 (seen (.str a) m) = true ∧ fl 60 (seen (.ref p') m) = true ∧ q (.bl (f (eqD (seen (.str a) m) (seen (.ref p') m)))) m) := rfl
theorem ev65 : gEqB f (.bl bb) (.lst es) m q = (fl 60 (seen (.bl bb) m) = true ∧ fl 60 (seen (.lst es) m) = true ∧ q (.bl (f (eqD (seen (.bl bb) m) (seen (.lst es) m)))) m) := rfl
theorem ev66 : gEqB f (.bl bb) (.tup es) m q = (fl 60 (seen (.bl bb) m) = true ∧ fl 60 (seen (.tup es) m) = true ∧ q (.bl (f (eqD (seen (.bl bb) m) (seen (.tup es) m)))) m) := rfl
theorem ev67 : gEqB f (.bl bb) (.ref p') m q = (fl 60 (seen (.bl bb) m) = true ∧ fl 60 (seen (.ref p') m) = true ∧ q (.bl (f (eqD (seen (.bl bb) m) (seen (.ref p') m)))) m) := rfl
theorem ev68 : gEqB f (.non) (.lst es) m q = (fl 60 (seen (.non) m) = true ∧ fl 60 (seen (.lst es) m) = true ∧ q (.bl (f (eqD (seen (.non) m) (seen (.lst es) m)))) m) := rfl
theorem ev69 : gEqB f (.non) (.tup es) m q = (fl 60 (seen (.non) m) = true ∧ fl 60 (seen (.tup es) m) = true ∧ q (.bl (f (eqD (seen (.non) m) (seen (.tup es) m)))) m) := rfl
theorem ev70 : gEqB f (.non) (.ref p') m q = (fl 60 (seen (.non) m) = true ∧ fl 60 (seen (.ref p') m) = true ∧ q (.bl (f (eqD (seen (.non) m) (seen (.ref p') m)))) m) := rfl
theorem ev71 : gEqB f (.int i) (.bl b2) m q = (fl 60 (seen (.int i) m) = true ∧ fl 60 (seen (.bl b2) m) = true ∧ q (.bl (f (eqD (seen (.int i) m) (seen (.bl b2) m)))) m) := rfl
theorem ev72 : gEqB f (.bl bb) (.int j) m q = (fl 60 (seen (.bl bb) m) = true ∧ fl 60 (seen (.int j) m) = true ∧ q (.bl (f (eqD (seen (.bl bb) m) (seen (.int j) m)))) m) := rfl
theorem ev73 : seen (.non) m = (.non : D) := rfl
theorem ev74 : seen (.bl bb) m = (.bl bb : D) := rfl
theorem ev75 : seen (.int i) m = (.int i : D) := rfl
theorem ev76 : seen (.str a) m = (.str a : D) := rfl
theorem ev77 : seen (.tup ds) m = (.tup ds : D) := rfl
theorem ev78 : seen (.lst ds) m = (.lst ds : D) := rfl
theorem ev79 : seen (.ref p) m = moSeen (.ref p) (m p) := rfl
theorem ev80 : moSeen o (some (.lst ds)) = (.lst ds : D) := rfl
theorem ev81 : moLst (some (.lst ds)) = some ds := rfl
theorem ev82 : lstOf (.lst ds) m = some ds := rfl
theorem ev83 : lstOf (.ref p) m = moLst (m p) := rfl
theorem ev84 : gInB f (.str [c]) (.str b) m q = q (.bl (f (decide (c ∈ b)))) m := rfl
theorem ev85 : gIsB f (.non) .non m q = q (.bl (f true)) m := rfl
theorem ev86 : gIsB f (.bl bb) .non m q = q (.bl (f false)) m := rfl
theorem ev87 : gIsB f (.int i) .non m q = q (.bl (f false)) m := rfl
theorem ev88 : gIsB f (.str a) .non m q = q (.bl (f false)) m := rfl
theorem ev89 : gIsB f (.tup ds) .non m q = q (.bl (f false)) m := rfl
theorem ev90 : gIsB f (.lst ds) .non m q = q (.bl (f false)) m := rfl
theorem ev91 : gIsB f (.ref p) .non m q = q (.bl (f false)) m := rfl
theorem ev92 : gIsB f (.bl bb) (.bl b2) m q = q (.bl (f (decide (bb = b2)))) m := rfl
theorem ev93 : gLen [.str a] m q = (a.length ≤ sizeLine ∧ q (.int a.length) m) := rfl
theorem ev94 : gLen [.tup ds] m q = q (.int ds.length) m := rfl
theorem ev95 : gLen [.scr ns] m q = q (.int ns.length) m := rfl
theorem ev96 : gLen [.lst ds] m q = q (.int ds.length) m := by simp [gLen, lstOf]
theorem ev97 : gLen [.ref p] m q = (∃ ds, moLst (m p) = some ds ∧ q (.int ds.length) m) := rfl
theorem ev98 : gAbs [.int i] m q = q (.int (if i < 0 then -i else i)) m := rfl
theorem ev99 : gInt [.int i] m q = q (.int i) m := rfl
theorem ev100 : gInt [.bl bb] m q = q (.int (if bb then 1 else 0)) m := rfl
theorem ev101 : gInt [.str a] m q = (∃ n, intText? ⟨a.toArray⟩ = some n ∧ a.length ≤ 640 ∧ q (.int n) m) := rfl
theorem ev102 : gStr [.int i] m q = (i.natAbs.log2 < 1920 ∧ q (.str (digs i)) m) := rfl
theorem ev103 : gMax2 [.int i, .int j] m q = q (.int (if j > i then j else i)) m := rfl
theorem ev104 : gMin2 [.int i, .int j] m q = q (.int (if j < i then j else i)) m := rfl
theorem ev105 : gAll [x] m q = (∃ ds bs, lstOf x m = some ds ∧ bls ds = some bs ∧ q (.bl (bs.all id)) m) := rfl
theorem ev106 : gAny [x] m q = (∃ ds bs, lstOf x m = some ds ∧ bls ds = some bs ∧ q (.bl (bs.any id)) m) := rfl
theorem ev107 : gTuple [.tup ds] m q = q (.tup ds) m := rfl
theorem ev108 : gTuple [.lst ds] m q = q (.tup ds) m := by simp [gTuple, lstOf]
theorem ev109 : gTuple [.ref p] m q = (∃ ds, moLst (m p) = some ds ∧ q (.tup ds) m) := rfl
theorem ev110 : gListA [.str a] m q = (a.length ≤ sizeLine ∧ q (.lst (chars a)) m) := rfl
theorem ev111 : gListA [.tup ds] m q = q (.lst (ds)) m := by simp [gListA, seqOf]
theorem ev112 : gListA [.lst ds] m q = q (.lst (ds)) m := by simp [gListA, seqOf, lstOf]
theorem ev113 : gListA [.scr ns] m q = q (.lst (ns.map D.int)) m := by simp [gListA, seqOf]
theorem ev114 : gListA [.ref p'] m q = (∃ ds, moLst (m p') = some ds ∧ q (.lst (ds)) m) := rfl
theorem ev115 : gListAO [.str a] m q = (a.length ≤ sizeLine ∧ (∀ p, m p = none → q (.ref p) (mset m p (.lst (chars a))))) := rfl
theorem ev116 : gListAO [.tup ds] m q = (∀ p, m p = none → q (.ref p) (mset m p (.lst (ds)))) := by simp [gListAO, seqOf]
theorem ev117 : gListAO [.lst ds] m q = (∀ p, m p = none → q (.ref p) (mset m p (.lst (ds)))) := by simp [gListAO, seqOf, lstOf]
theorem ev118 : gListAO [.scr ns] m q = (∀ p, m p = none → q (.ref p) (mset m p (.lst (ns.map D.int)))) := by simp [gListAO, seqOf]
theorem ev119 : gListAO [.ref p'] m q = (∃ ds, moLst (m p') = some ds ∧ (∀ p, m p = none → q (.ref p) (mset m p (.lst (ds))))) := rfl
theorem ev120 : seqOf (.tup ds) m = some ds := rfl
theorem ev121 : seqOf (.lst ds) m = some ds := rfl
theorem ev122 : seqOf (.ref p) m = moLst (m p) := rfl
theorem ev123 : gIsi [x, .ty T] m q = (∃ t, tyD x m = some t ∧ T ∈ ["str", "int", "bool", "list", "tuple", "dict"] ∧ q (.bl (isTy t T)) m) := rfl
theorem ev124 : tyD (.non) m = some "NoneType" := rfl
theorem ev125 : tyD (.bl bb) m = some "bool" := rfl
theorem ev126 : tyD (.int i) m = some "int" := rfl
theorem ev127 : tyD (.str a) m = some "str" := rfl
theorem ev128 : tyD (.tup ds) m = some "tuple" := rfl
theorem ev129 : tyD (.lst ds) m = some "list" := rfl
theorem ev130 : tyD (.dct false ks) m = some "dict" := rfl
theorem ev131 : tyD (.ref p) m = tyL (moLst (m p)) := rfl
theorem ev132 : tyL (some ds) = some "list" := rfl
theorem ev133 : gIx (.str a) (.int i) m q = (a.length ≤ sizeLine ∧ ∃ c, atI a i = some c ∧ q (.str [c]) m) := rfl
theorem ev134 : gIx (.tup ds) (.int i) m q = (∃ d, atI ds i = some d ∧ q d m) := rfl
theorem ev135 : gIx (.lst ds) (.int i) m q = (∃ d, atI ds i = some d ∧ q d m) := by simp [gIx, lstOf]
theorem ev136 : gIx (.ref p) (.int i) m q = (∃ ds, moLst (m p) = some ds ∧ ∃ d, atI ds i = some d ∧ q d m) := by simp [gIx, lstOf]
theorem ev137 : gSl (.str a) lo hi m q = (a.length ≤ sizeLine ∧ q (.str (cut a lo hi)) m) := rfl
theorem ev138 : gSl (.tup ds) lo hi m q = (¬ (HT.sIx ds.length 0 lo = 0 ∧ HT.sIx ds.length ds.length hi = ds.length) ∧ q (.tup (cut ds lo hi)) m) := rfl
theorem ev139 : gSl (.lst ds) lo hi m q = q (.lst (cut ds lo hi)) m := by simp [gSl, lstOf]
theorem ev140 : gSl (.ref p) lo hi m q = (∃ ds, moLst (m p) = some ds ∧ q (.lst (cut ds lo hi)) m) := rfl
theorem ev141 : gNeg (.int i) m q = q (.int (-i)) m := rfl
theorem ev142 : truD .non m = some false := rfl
theorem ev143 : truD (.bl bb) m = some bb := rfl
theorem ev144 : truD (.int i) m = some (i != 0) := rfl
theorem ev145 : truD (.tup ds) m = some (!ds.isEmpty) := rfl
theorem ev146 : truD (.lst ds) m = some (!ds.isEmpty) := rfl
theorem ev147 : truD (.ref p) m = (moLst (m p)).map fun ds => !ds.isEmpty := rfl
theorem ev148 : gFrz (.ref p) m q = (∃ ds, m p = some (.lst ds) ∧ q (.lst ds) (mdel m p)) := rfl
theorem ev149 : gFrz (.lst ds) m q = q (.lst ds) m := rfl
theorem ev150 : gFrz (.tup ds) m q = q (.tup ds) m := rfl
theorem ev151 : gFrz (.int i) m q = q (.int i) m := rfl
theorem ev152 : gFrz (.str a) m q = q (.str a) m := rfl
theorem ev153 : gFrz (.bl bb) m q = q (.bl bb) m := rfl
theorem ev154 : gFrz (.non) m q = q (.non) m := rfl
theorem ev155 : gAllOf (.lst ds) m r = r ds m := rfl
theorem ev156 : gAllOf (.tup ds) m r = r ds m := rfl
theorem ev157 : gAllOf (.str a) m r = r (chars a) m := rfl
theorem ev158 : gAllOf (.ref p) m r = (∃ ds, m p = some (.lst ds) ∧ r ds (mdel m p)) := rfl
theorem ev159 : gFmt (.str a) m q = (a.length ≤ sizeLine ∧ q (.str a) m) := rfl
theorem ev160 : gFmt (.int i) m q = (i.natAbs.log2 < 1920 ∧ q (.str (digs i)) m) := rfl
theorem ev161 : addO ds (some x) = ds ++ [x] := rfl
theorem ev162 : addO ds none = ds := rfl
theorem at_0 {α : Type} {x0 : α} {l : List α} : atI (x0 :: l) 0 = some x0 := by
  unfold atI ixN
  rw [if_pos (by decide), if_pos (by simp only [List.length_cons]; omega)]
  rfl
theorem at_1 {α : Type} {x0 x1 : α} {l : List α} : atI (x0 :: x1 :: l) 1 = some x1 := by
  unfold atI ixN
  rw [if_pos (by decide), if_pos (by simp only [List.length_cons]; omega)]
  rfl
theorem at_2 {α : Type} {x0 x1 x2 : α} {l : List α} : atI (x0 :: x1 :: x2 :: l) 2 = some x2 := by
  unfold atI ixN
  rw [if_pos (by decide), if_pos (by simp only [List.length_cons]; omega)]
  rfl
theorem at_3 {α : Type} {x0 x1 x2 x3 : α} {l : List α} : atI (x0 :: x1 :: x2 :: x3 :: l) 3 = some x3 := by
  unfold atI ixN
  rw [if_pos (by decide), if_pos (by simp only [List.length_cons]; omega)]
  rfl
theorem at_4 {α : Type} {x0 x1 x2 x3 x4 : α} {l : List α} : atI (x0 :: x1 :: x2 :: x3 :: x4 :: l) 4 = some x4 := by
  unfold atI ixN
  rw [if_pos (by decide), if_pos (by simp only [List.length_cons]; omega)]
  rfl
theorem at_5 {α : Type} {x0 x1 x2 x3 x4 x5 : α} {l : List α} : atI (x0 :: x1 :: x2 :: x3 :: x4 :: x5 :: l) 5 = some x5 := by
  unfold atI ixN
  rw [if_pos (by decide), if_pos (by simp only [List.length_cons]; omega)]
  rfl
theorem at_6 {α : Type} {x0 x1 x2 x3 x4 x5 x6 : α} {l : List α} : atI (x0 :: x1 :: x2 :: x3 :: x4 :: x5 :: x6 :: l) 6 = some x6 := by
  unfold atI ixN
  rw [if_pos (by decide), if_pos (by simp only [List.length_cons]; omega)]
  rfl
theorem at_7 {α : Type} {x0 x1 x2 x3 x4 x5 x6 x7 : α} {l : List α} : atI (x0 :: x1 :: x2 :: x3 :: x4 :: x5 :: x6 :: x7 :: l) 7 = some x7 := by
  unfold atI ixN
  rw [if_pos (by decide), if_pos (by simp only [List.length_cons]; omega)]
  rfl
theorem ix_0 : ixN 5 0 = some 0 := rfl
theorem ix_1 : ixN 5 1 = some 1 := rfl
theorem ix_2 : ixN 5 2 = some 2 := rfl
theorem ix_3 : ixN 5 3 = some 3 := rfl
theorem ix_4 : ixN 5 4 = some 4 := rfl
theorem nm_T {i : Nat} {d : D} {n : Nv} {k : Nv → Prop} : setT (.nm i) d n k = k (n.set i (some d)) := rfl
theorem tp_T {js : List Nat} {ds : List D} {n : Nv} {k : Nv → Prop} : setT (.tp js) (.tup ds) n k = (ds.length = js.length ∧ k (setAll js ds n)) := by simp [setT]
end
end DL

/-! DL10: exceptions of the program, raised -/
namespace DL
open PySem PySem.Spec PyProof.Rows L2
/-! ### their own way of being made -/
section
variable {X : Cx} {e : Expr} {es : List Expr} {ta : TA} {p1 p2 pos : Pos}
/-- what the text says of the class whose way of making is asked for -/
structure BaseK (K : PySem.W.Frag) (mg : Str → Option Value) (R : Str) : Prop where
  ex : ∃ C, mg R = some (.ref C) ∧ PySem.W.keepIn K (.ref C) = true ∧ ClX.CRead K C (.type "type") ∧ PySem.W.findCls K (.ref C) (.type "type") "__init__" = some (.val (.builtin "ValueError.__init__"))
theorem pe_base {R : Str} {pl : Sem Bool} (B : BaseK X.K X.mg R) (hg : Gl X R) (hdb : (R == ("__debug__" : Str)) = false) (ha : PA X (e :: es) ta)
    (hc : eval (.Call (.Attribute (.Name R p1) "__init__" p2) (e :: es) [] pos) X.env = (do
      let o ← eval (.Name R p1) X.env
      standAt p2.atName
      let (f, first) ← holding [o] (getMethod o "__init__" pl)
      callWith pos f first (backTo pos (starEach (e :: es) X.env)) (backToKw pos (keywordEach [] X.env))) := by rfl)
    (he : starEach (e :: es) X.env = (false, eval e X.env) :: starEach es X.env := by rfl) (hpl : (backTo pos (starEach es X.env)).any (·.1) = false := by rfl) :
    PE X (.Call (.Attribute (.Name R p1) "__init__" p2) (e :: es) [] pos) (tVeI X.K ta) := by
  obtain ⟨C, hm, hk, cr, vV⟩ := B.ex
  refine ⟨fun pins s σ H Q I h => ?_⟩
  refine PySem.W.methodCall_KW (ld_glob I hg hm ?_ hdb) hc
  refine PySem.W.method_cls I.kIn cr.ga (PySem.W.cls_value I.kIn cr.rd vV (by decide +kernel) ?_)
  refine PyProof.Rows.callWith_method1 (thn (ha.run pos pins _ σ H _ (I.tok _) h) fun us s1 w => ?_) he hpl
  obtain ⟨vs, H1, I1, r1, a, C, ws, ev, hl, T, ea, q⟩ := w
  subst ev
  cases r1 with
  | @cons _ u0 _ ur ra rw' =>
    obtain rfl : u0 = Value.ref a := ra
    have hn : ur.length ≤ sizeLine := by
      have := Paired.length rw'
      rw [sizeLine_eq]
      omega
    exact oinit_ok T I1 ea hn fun s' J => ⟨.non, H1, J, rfl, q⟩
end
/-- .. of a class whose __init__ keeps what it is given -/
def spInit (K : PySem.W.Frag) : Sp := fun vs H Q _ => ∃ (a C : Addr) (y : V), vs = [.ref a, y] ∧ OexC K C ∧ PySem.W.findIn K (.ref C) "given" = some none ∧ H a = some (exo a C none) ∧ ∀ dx, H dx = none → dx ≠ a → Q .non (upd (upd H dx (exd dx [("given", y)])) a (exo a C (some dx)))
theorem len_init {K : PySem.W.Frag} : ∀ vs H Q E, spInit K vs H Q E → vs.length = ["self", "given"].length := fun vs H Q E ⟨a, C, y, e, _⟩ => by rw [e]; rfl
/-- what the text says of an exception of the program that keeps what it is given -/
structure ExcD (P : Program) (w : World) (K : PySem.W.Frag) (mg : Str → Option Value) (base : Heap) (k : Nat) (nm : Str) : Prop where
  ex : ∃ (C fI : Addr) (fd : FuncData), OexC K C ∧ PySem.W.findIn K (.ref C) "__init__" = some (some (.ref fI)) ∧ PySem.W.typeIn K (.ref fI) = some (.type "function") ∧ FnOk P w K mg base (L2.CX P w) k fI fd ["self", "given"] (spInit K) ∧ Binds K fd ["self", "given"] [] ∧
    mg nm = some (.ref C) ∧ ClsK K nm (.ref C) ∧ PySem.W.findIn K (.ref C) "given" = some none
section
variable {X : Cx} {W : WX} {e : Expr} {re : RE} {p pos pos' : Pos}
/-- raise X(e) -/
def rRaise (nm : Str) (r : RE) : RS := fun xd _ n m => r xd n m fun d m1 => xd nm [("given", d)] n m1
theorem ds_raise {nm : Str} {j k : Nat} (hc : X.calm = true) (tk : Takes X W) (c : ExcD X.prog X.w X.K X.mg X.base k nm) (hr : Room j X.A) (hk : k + 1 ≤ j) (hg : Gl X nm) (he : DE X W e re) (hdb : (nm == ("__debug__" : Str)) = false := by decide)
    (hst : starEach [e] X.env = [(false, eval e X.env)] := by rfl) : DS X W (.Raise (some (.Call (.Name nm p) [e] [] pos')) none pos) (rRaise nm re) := by
  obtain ⟨C, fI, fd, T, iC, tI, F, B, hm, cl, hf⟩ := c.ex
  refine PS.imp (ps_raise hc tk (pmk_oex T iC tI F (hr.mono hk) B .nil passL hg hm (pa_cons he pa_nil hst) hdb hst rfl)) fun D t H ⟨n, m, G, xd, en, hn, hs, hl, hq, L⟩ => ?_
  refine ⟨n, m, G, xd, _, hn, hs, hl, hq, fun d m1 v G1 H1 e1 s1 r1 k1 => ⟨by simp, fun a ha => ?_⟩⟩
  refine ⟨a, C, v, rfl, T, hf, upd_same, fun dx hdx ne => ?_⟩
  have hdx1 : H1 dx = none := by
    rw [upd_ne ne] at hdx
    exact hdx
  refine ⟨rfl, dx, [("given", v)], upd_same, by rw [upd_ne ne, upd_same], hdx1, ?_⟩
  have eH : upd (del (upd (upd (upd H1 a (exo a C none)) dx (exd dx [("given", v)])) a (exo a C (some dx))) a) dx (.xd [("given", v)]) = upd H1 dx (.xd [("given", v)]) := by
    funext b
    by_cases hb : b = dx
    · rw [hb, upd_same, upd_same]
    · rw [upd_ne hb, upd_ne hb]
      by_cases hba : b = a
      · rw [hba, del_same, ha]
      · rw [del_ne hba, upd_ne hba, upd_ne hb, upd_ne hba]
  rw [eH]
  obtain ⟨s2, e2⟩ := s1.laid hdx1 (.xd [("given", v)])
  exact hl nm (.ref C) [("given", d)] (some dx) n m1 t _ _ (e1.trans e2) s2 (hn.mono (e1.trans e2)) (.yes cl upd_same (.cons (r1.mono e2) .nil)) k1
end
end DL

/-! DL11: try with several clauses, each with a name or without; what a caught exception tells -/
namespace DL
open PySem PySem.Spec PyProof.Rows L2
/-- one clause: its class, the slot of its name, what its suite reads -/
abbrev Cl := Value × Option Nat × (Addr → Value → Option Addr → TS)
def bindO (i : Option Nat) (v : Option V) (σ : L2.St) : L2.St := i.elim σ fun j => σ.set j v
def endO (i : Option Nat) (D : Ends) : Ends := { nx := fun σ H => D.nx (bindO i none σ) H, rt := D.rt, bk := fun σ H => D.bk (bindO i none σ) H, ct := fun σ H => D.ct (bindO i none σ) H }
def wCls (K : PySem.W.Frag) (Wout : WX) (D : Ends) : List Cl → WX
  | [] => Wout
  | (c, i, ts) :: r => fun cls d σ H => ∃ b, PySem.W.exmOne K cls c = some b ∧ (b = true → ∀ a, H a = none → ts a cls d (endO i D) (bindO i (some (.ref a)) σ) H) ∧ (b = false → wCls K Wout D r cls d σ H)
def nameOk (X : Cx) (o : Option Str) (i : Option Nat) : Prop := (o = none ∧ i = none) ∨ ∃ n j, o = some n ∧ i = some j ∧ X.N[j]? = some n ∧ X.env.kindOf n = some .local
inductive ClsOk (X : Cx) : List ExceptHandler → List Cl → Prop
  | nil : ClsOk X [] []
  | cons {x : Str} {c : Value} {o : Option Str} {i : Option Nat} {ts : Addr → Value → Option Addr → TS} {st : Stmt} {sts : List Stmt} {np hp : Pos} {hs : List ExceptHandler} {l : List Cl} (hc : Names X x c) (ho : nameOk X o i)
      (su : ∀ (a : Addr) (oe : Obj) (cls : Value) (d : Option Addr) (pn : List (Addr × Obj)), Zc cls d oe → (∃ vs, oe.data = .fields vs) → PSs (X.suite a ((a, oe) :: pn)) (st :: sts) (ts a cls d)) (r : ClsOk X hs l) :
      ClsOk X (.ExceptHandler (some (.Name x np)) o (st :: sts) hp :: hs) ((c, i, ts) :: l)
section
variable {X : Cx} {pins : List (Addr × Obj)} {σ : L2.St} {H : Hp} {s s' : Shared} {a : Addr} {cls : Value} {d : Option Addr} {B h3 : Heap} {Wout : WX} {D : Ends}
theorem not_frame {l : List Env} {h : Heap} {o : Obj} {vs : Array Value} (ff : h.FunFrames B l) (e : h.get? a = some o) (dd : o.data = .fields vs) : a ∉ frs l := fun hm => by
  obtain ⟨_, o', e', hn⟩ := ff.mem hm
  have z := Option.some.inj (e.symm.trans e')
  subst z
  exact hn _ dd
/-- the clauses, one after the other -/
theorem clauses_go (hs : X.stack = X.env :: X.outer) (hf : X.env.frame = some X.env.locals) (hN : X.N.Nodup) (tk : Takes X Wout) (ok : X.Ok) {sI : Shared} (J : Inv X pins σ H sI)
    (nb : ∀ b o, sI.heap.get? b = some o → b ∉ frs X.stack → B.get? b = some o) (up : sI.heap.UpToSlots h3) (os : s'.os = sI.os) (ag : AllBare s'.gens) (na : H a = none) (fl : HandSPX.FlyingZ B (X.env :: X.outer) a (Zc cls d) h3) :
    ∀ {hds : List ExceptHandler} {l : List Cl}, ClsOk X hds l → wCls X.K Wout D l cls d σ H → wpAny (model X.prog X.w) X.A (handleBy (.ref a) X.env hds) (SP X pins D) X.xe { s' with heap := h3 } := by
  have J3 : Inv X pins σ H { s' with heap := h3 } := J.landed (s' := { s' with heap := h3 }) nb fl.1 up os ag
  obtain ⟨oe3, vs3, he3, hz3, hd3⟩ := fl.there
  have nfr := not_frame fl.2.2.1 he3 hd3
  have nL : a ≠ X.env.locals := fun z => nfr (List.mem_filterMap.mpr ⟨X.env, List.mem_cons_self, by rw [hf, z]⟩)
  have nF : a ∉ X.fs := fun hm => by
    obtain ⟨e, he, q⟩ := List.mem_filterMap.mp hm
    exact nfr (List.mem_filterMap.mpr ⟨e, List.mem_cons_of_mem _ he, q⟩)
  have S3 := J3.suite he3 hd3 na nL nF
  intro hds l hk
  induction hk with
  | nil =>
    intro w
    obtain ⟨k1, k2, k3, oe, vs, T, oT, ts', he, hz, hd, h1, hr⟩ := id fl
    refine wpAny_handleBy_nil ?_
    unfold PySem.passOn
    refine wpAny_bind (wpAny_field he hd h1 ?_)
    rw [if_neg (show ¬ ((Value.ref T == Value.none) = true) by simp)]
    have fin : wpAny (model X.prog X.w) X.A (setFlight (.ref a) X.env.frame) (fun _ s4 => wpAny (model X.prog X.w) X.A (throw (.ref a) : Sem Flow) (SP X pins D) X.xe s4) X.xe { s' with heap := h3 } := by
      rw [hf]
      refine HandSPX.setFlight_upZ (s := { s' with heap := h3 }) fl fun h4 hh4 up4 => wpAny_throw (tk _ _ ?_)
      refine ⟨a, B, sI, pins, σ, H, cls, d, rfl, J, nb, up.trans up4, ?_, na, os, ag, w⟩
      exact .inr (.inr (by rw [hs]; exact hh4))
    first
      | exact wpAny_bind (wpAny_pure (wpAny_bind fin))
      | exact wpAny_bind fin
  | @cons x c o i ts st sts np hp hs2 l2 hc ho su r ih =>
    rintro ⟨b, hb, hyes, hno⟩
    refine wpAny_handleBy_cons (codeAny_handlers_test ?_) (by intro q; cases q)
    have LT : PySem.W.Looks (model X.prog X.w) h3 (typeOf (.ref a)) cls := fun A Q E s k q => wpAny_typeOf_ref (k _ _ he3) (hz3.1.symm ▸ q)
    have LM := PySem.W.exm_one (M := model X.prog X.w) J3.kIn LT hb
    have test : ∀ {Q : Value → Shared → Prop} {E : Value → Shared → Prop}, Q c { s' with heap := h3 } → wpAny (model X.prog X.w) (X.A.mark (some (.ref a))) (eval (.Name x np) X.env) Q E { s' with heap := h3 } := fun {Q E} q => by
      rcases hc with ⟨hg, hdb, hm | ⟨hm, hv, hnn⟩⟩
      · exact ld_glob (X := X.suite a ((a, oe3) :: (X.pn ++ pins))) S3 hg hm q hdb
      · exact ld_blt (X := X.suite a ((a, oe3) :: (X.pn ++ pins))) S3 hg hm hv q hnn hdb
    refine test (LM.here ?_)
    cases b with
    | false => exact ih (hno rfl)
    | true =>
      rcases ho with ⟨rfl, rfl⟩ | ⟨n, j, rfl, rfl, hj, hl⟩
      · refine codeAny_handlers_suite ?_
        refine HandSPX.lands_againZ (s := { s' with heap := h3 }) fl fun h4 fl4 up4 => ?_
        have J4 : Inv X pins σ H { s' with heap := h4 } := J.landed (s' := { s' with heap := h4 }) nb fl4.1 (up.trans up4) os ag
        obtain ⟨oe4, vs4, he4, hz4, hd4⟩ := fl4.there
        refine wpAny_mono ((su a oe4 cls d (X.pn ++ pins) hz4 ⟨_, hd4⟩).run [] _ _ H _ (J4.suite he4 hd4 na nL nF) (hyes rfl a na)) (fun f s6 q => ?_) (fun _ _ z => z.elim)
        cases f <;> rcases q with ⟨x1, x2, q⟩ <;> first
          | exact ⟨_, _, q.1.unsuite ok, q.2⟩
          | (obtain ⟨x3, q1, q2, q3⟩ := q; exact ⟨_, _, _, q1.unsuite ok, q2, q3⟩)
      · refine codeAny_handlers_suite_as ?_
        refine HandSPX.lands_againZ (s := { s' with heap := h3 }) fl fun h4 fl4 up4 => ?_
        have J4 : Inv X pins σ H { s' with heap := h4 } := J.landed (s' := { s' with heap := h4 }) nb fl4.1 (up.trans up4) os ag
        obtain ⟨oe4, vs4, he4, hz4, hd4⟩ := fl4.there
        refine store_ok (X := X.suite a ((a, oe4) :: (X.pn ++ pins))) (v := .ref a) (J4.suite he4 hd4 na nL nF) hN hj (.inl hl) rfl (fun s5 S5 => ?_) (.inr hl)
        refine wpAny_mono ((su a oe4 cls d (X.pn ++ pins) hz4 ⟨_, hd4⟩).run [] s5 _ H _ S5 (hyes rfl a na)) (fun f s6 q => ?_) (fun _ _ z => z.elim)
        have gone : ∀ {σ6 : L2.St} {H6 : Hp} {Q : Shared → Prop}, Inv (X.suite a ((a, oe4) :: (X.pn ++ pins))) [] σ6 H6 s6 → (∀ s7, Inv X pins (σ6.set j none) H6 s7 → Q s7) →
            wpAny (model X.prog X.w) X.A (do bindName X.env n .none; unbindBehindTheSuite X.env n hp) (fun _ s7 => Q s7) X.xe s6 := fun S6 hq => gone_ok (S6.unsuite ok) hN hj hl hq
        cases f <;> rcases q with ⟨x1, x2, q⟩ <;> first
          | exact gone q.1 fun s7 J7 => ⟨_, _, J7, q.2⟩
          | (obtain ⟨x3, q1, q2, q3⟩ := q; exact gone q1 fun s7 J7 => ⟨_, _, _, J7, q2, q3⟩)
variable {body : List Stmt} {h₀ : ExceptHandler} {hds : List ExceptHandler} {l : List Cl} {pos : Pos} {tb : WX → TS}
theorem ps_try_cls (hs : X.stack = X.env :: X.outer) (hf : X.env.frame = some X.env.locals) (hN : X.N.Nodup) (tk : Takes X Wout)
    (hb : ∀ (W : WX) (pn : List (Addr × Obj)) (xe : Value → Shared → Prop), Takes (X.tr pn xe) W → PassesOwn (model X.prog X.w) X.A X.env xe → PSs (X.tr pn xe) body (tb W)) (hh : ClsOk X (h₀ :: hds) l) :
    PS X (.Try body (h₀ :: hds) [] [] pos) (fun D σ H => tb (wCls X.K Wout D l) D σ H) := by
  refine ⟨fun pins s σ H D I h => ?_⟩
  have ok := I.ok
  have hfr : X.A.frames = some (X.env :: X.outer) := ok.frames.trans (congrArg some hs)
  refine wpAny_Try_except (wpAny_mono ((hb (wCls X.K Wout D l) (X.pn ++ pins) (fun e s₁ => wpAny (model X.prog X.w) X.A (noteFrame e X.env) (fun _ s₂ => wpAny (model X.prog X.w) X.A (setFlight e none) (fun _ s₃ =>
    wpAny (model X.prog X.w) X.A (handleBy e X.env (h₀ :: hds)) (SP X pins D) X.xe s₃) X.xe s₂) X.xe s₁) (fun u s' xx => ?_) PassesOwn.looking).run [] s σ H D (I.toTry _) h) (fun f s1 q => ?_) fun e s1 he => he)
  · obtain ⟨a, B, sI, pins', σ', H', cls, d, rfl, J', nb, up, sky, na, os, ag, w⟩ := xx
    show wpAny (model X.prog X.w) X.A (noteFrame (.ref a) X.env) _ _ _
    refine Sky.land Zc.steady hfr hf (show Sky B (X.env :: X.outer) a (Zc cls d) X.env.locals s'.heap by rw [← hs]; exact sky) fun h3 fl3 up3 => ?_
    exact clauses_go hs hf hN tk ok (J'.ofTry ok) nb (up.trans up3) os ag na fl3 hh w
  · cases f <;> rcases q with ⟨x1, x2, q⟩ <;> first
      | exact wpAny_execs_nil ⟨x1, x2, q.1.ofTry ok, q.2⟩
      | exact ⟨x1, x2, q.1.ofTry ok, q.2⟩
      | (obtain ⟨x3, q1, q2, q3⟩ := q; exact ⟨x1, x2, x3, q1.ofTry ok, q2, q3⟩)
end
end DL

/-! DL12: try over data; e.given; isinstance of a caught exception -/
namespace DL
open PySem PySem.Spec PyProof.Rows L2
section
open PySem.W PySem.Calls
variable {prog : Program} {w : World} {A : Around} {E : Value → Shared → Prop} {s : Shared} {K : Frag} {x Dc : Addr} {ox : Obj} {od : Option Obj}
/-- x.__class__ of an exception, with a dict of its own or without -/
theorem exc_class {Q : Option Value → Shared → Prop} (C : ExcC K Dc) (Y : K.In s.heap) (I : InstAt s.heap x ox Dc od) (h : Q (some (.ref Dc)) { s with toks := s.toks + 1 }) : wpAny (model prog w) A (getAttr? (.ref x) "__class__") Q E s := by
  have hc : (clsIn K Dc).isSome = true := by
    obtain ⟨cd, hc, _⟩ := any_some C.hd
    rw [hc]
    rfl
  have hf : findObj K Dc od "__class__" = some (.bind (.builtin "getset_descriptor.__get__") (.builtin "object.__class__")) := by
    obtain ⟨cd, e⟩ := Option.isSome_iff_exists.mp hc
    unfold findObj
    rw [e, Option.bind_some, C.ha, Option.bind_some]
    simp [C.hn, C.ht]
  obtain ⟨hp, g, d, t, os⟩ := s
  have T0 := I.type (M := model prog w)
  have T1 := looks_findIn (M := model prog w) Y C.hg
  have T2 := looks_findIn (M := model prog w) Y C.hk
  have T3 := looks_find (M := model prog w) Y I hf
  have isB : Looks (model prog w) hp (isInstance (.ref x) (.type "BaseException")) true := T0.andThen (looks_subIn Y C.hs)
  have z2 : (Value.builtin "BaseException.__getattribute__" == .builtin "object.__getattribute__") = false := by decide +kernel
  have z1 : (onTheHeap (.ref Dc) && Value.builtin "BaseException.__getattribute__" == .builtin "object.__getattribute__") = false := z2.symm ▸ Bool.and_false _
  unfold getAttr? getAttrBy?; unfold getAttrBy
  refine wpAny_bind (wpAny_mkText (wpAny_bind (wpAny_attempt (wpAny_holding (wpAny_bind (T0.at (wpAny_bind (T1.at (show wpAny _ _ (if (onTheHeap (.ref Dc) && Value.builtin "BaseException.__getattribute__" == .builtin "object.__getattribute__") = true then _ else _) _ _ _ from ?_)))))))))
  rw [z1, if_neg Bool.false_ne_true]
  unfold getAttrByItsOwn; unfold hookBefore
  refine wpAny_bind ?_; rw [if_pos (show onTheHeap (Value.ref Dc) = true from rfl)]; refine T2.at ?_
  refine wpAny_bind (wpAny_attempt (wpAny_holding ?_)); unfold callGetattribute
  rw [show (false && onTheHeap (Value.builtin "BaseException.__getattribute__")) = false from rfl, if_neg Bool.false_ne_true]; unfold boundAndCalled
  rw [PySem.F.excAttr_ValueError.ga.bind (.ref x)]; refine wpAny_bind (wpAny_pure (show wpAny _ _ (call (.builtin "BaseException.__getattribute__") [.ref x, .str "__class__" t]) _ _ _ from ?_))
  refine wpAny_call (codeAny_call_builtin PySem.F.excAttr_ValueError.ga.plain PySem.F.entry_bexc_ga (@check_slot (model prog w) _ _ ⟨hp, g, d, t + 1, os⟩ "BaseException.__getattribute__" "BaseException" "__getattribute__" (.ref x) [.str "__class__" t] [] _ (by decide +kernel) (by decide +kernel) isB (PySem.F.args_bexc_ga (.ref x) (.str "__class__" t)) ?_))
  unfold Builtin.«object.__getattribute__»; refine wpAny_bind (wpAny_of_eq (a := ((Value.ref x : Value), [Value.str "__class__" t])) (by first | rfl | (simp only [slotArgs]; rfl)) (wpAny_bind (wpAny_pure (wpAny_bind (T0.at (wpAny_bind (T3.at ?_)))))))
  refine (show wpAny _ _ (holding [Value.builtin "object.__class__"] (call (.builtin "getset_descriptor.__get__") [.builtin "object.__class__", .ref x, .ref Dc]) >>= ret) _ _ _ from ?_)
  refine wpAny_bind (wpAny_holding (wpAny_call (class_get (s := ⟨hp, g, d, t + 1, os⟩) (ox := ox) (od := od) Y I C.hm (wpAny_pure (show wpAny _ _ (handedOut (.ref Dc)) _ _ _ from ?_)))))
  rw [handedOut_of (v := .ref Dc) rfl]
  first
    | exact wpAny_pure (wpAny_pure h)
    | exact wpAny_pure h
    | exact wpAny_pure (wpAny_bind (wpAny_pure (wpAny_pure h)))
theorem kitx_exc (C : ExcC K Dc) : KitX K (.ref x) (.ref Dc) (fun h => ∃ od, InstAt h x ox Dc od) where
  ty := fun _ _ _ ⟨_, I⟩ => I.type
  it := fun _ _ Y _ => by
    obtain ⟨cd, hcd, _⟩ := any_some C.hd
    unfold clsIn at hcd
    split at hcd
    · rename_i ho
      exact fun A' Q' E' s' k q => by unfold isType loadHead; exact wpAny_bind (wpAny_loadPart (k _ _ (Y _ _ ho)) (wpAny_pure q))
    · cases hcd
  ne := fun h tp dd its n sl Y htp => by
    obtain ⟨cd, hcd, _⟩ := any_some C.hd
    refine Bool.eq_false_iff.mpr fun q => ?_
    have e : Dc = tp := Value.ref.inj (beq_iff_eq.mp q)
    subst e; unfold clsIn at hcd
    split at hcd
    · rename_i ho; cases (Y _ _ ho).symm.trans htp
    · cases hcd
  ca := fun Y ⟨_, I⟩ k => exc_class C Y I k
end
/-- what the text says of its exceptions, all at once -/
structure Tab (K : PySem.W.Frag) : Prop where
  exm : ∀ {nm c nm' c'}, ClsK K nm c → ClsK K nm' c' → PySem.W.exmOne K c c' = some (isSub nm nm')
  kit : ∀ {nm c nm' c'}, ClsK K nm c → ClsK K nm' c' → PySem.W.kitOne K c c' = some (isSub nm nm')
  ref : ∀ {nm c}, ClsK K nm c → ∃ C, c = .ref C ∧ XfC K C ∧ ExcC K C ∧ PySem.W.findIn K (.ref C) "given" = some none
/-! ### try -/
abbrev ClD := Str × Option Nat × (Addr → Value → Option Addr → RS)
def setO (i : Option Nat) (d : Option D) (n : Nv) : Nv := i.elim n fun j => n.set j d
def enO (i : Option Nat) (e : EN) : EN := { nx := fun n m => e.nx (setO i none n) m, rt := e.rt, bk := fun n m => e.bk (setO i none n) m, ct := fun n m => e.ct (setO i none n) m }
def xCls (xd : XD) (e : EN) : List ClD → XD
  | [] => xd
  | (h, i, ts) :: r => fun nm fs n m => if isSub nm h = true then ∀ a c o, m a = none → ts a c o xd0 (enO i e) (setO i (some (.exc a c o nm fs)) n) m else xCls xd e r nm fs n m
def rTry (l : List ClD) (b : RS) : RS := fun xd e n m => b (xCls xd e l) e n m
section
variable {X : Cx} {W : WX} {pos : Pos}
inductive DCl (X : Cx) : List ExceptHandler → List ClD → Prop
  | nil : DCl X [] []
  | cons {x : Str} {o : Option Str} {i : Option Nat} {ts : Addr → Value → Option Addr → RS} {st : Stmt} {sts : List Stmt} {np hp : Pos} {hs : List ExceptHandler} {l : List ClD} (hm : ∃ c, X.mg x = some c ∧ ClsK X.K x c) (hg : Gl X x) (ho : nameOk X o i)
      (su : ∀ (a : Addr) (oe : Obj) (cls : Value) (d : Option Addr) (pn : List (Addr × Obj)), Zc cls d oe → (∃ vs, oe.data = .fields vs) → DSs (X.suite a ((a, oe) :: pn)) W0 (st :: sts) (ts a cls d)) (r : DCl X hs l)
      (hdb : (x == ("__debug__" : Str)) = false := by decide) : DCl X (.ExceptHandler (some (.Name x np)) o (st :: sts) hp :: hs) ((x, i, ts) :: l)
theorem setO_rep {K : PySem.W.Frag} {G : Hp} {n : Nv} {t : L2.St} {d : D} {v : V} (i : Option Nat) (hn : RepN K G n t) (h : Rep K G d v) : RepN K G (setO i (some d) n) (bindO i (some v) t) := by
  cases i with
  | none => exact hn
  | some j => exact hn.set h j
theorem unsetO_rep {K : PySem.W.Frag} {G : Hp} {n : Nv} {t : L2.St} (i : Option Nat) (hn : RepN K G n t) : RepN K G (setO i none n) (bindO i none t) := by
  cases i with
  | none => exact hn
  | some j => exact RepN.unset j hn
theorem LinkS.enO {K : PySem.W.Frag} {G : Hp} {e : EN} {D : Ends} (i : Option Nat) (L : LinkS K G e D) : LinkS K G (enO i e) (endO i D) :=
  ⟨fun n m t G' H' a b c k => L.nx _ m _ G' H' a b (unsetO_rep i c) k, L.rt, fun n m t G' H' a b c k => L.bk _ m _ G' H' a b (unsetO_rep i c) k, fun n m t G' H' a b c k => L.ct _ m _ G' H' a b (unsetO_rep i c) k⟩
theorem RepX.exc {K : PySem.W.Frag} {G : Hp} {nm : Str} {c : Value} {fs : List (Str × D)} {o : Option Addr} (a : Addr) (h : RepX K G nm c fs o) : Rep K G (.exc a c o nm fs) (.ref a) := by
  cases h with
  | no z => exact .exc0 z
  | yes z h r => exact .exc z h r
theorem RepX.cls {K : PySem.W.Frag} {G : Hp} {nm : Str} {c : Value} {fs : List (Str × D)} {o : Option Addr} (h : RepX K G nm c fs o) : ClsK K nm c := by
  cases h with
  | no z => exact z
  | yes z h r => exact z
theorem DCl.low (T : Tab X.K) {hs : List ExceptHandler} {l : List ClD} (h : DCl X hs l) : ∃ l', ClsOk X hs l' ∧ ∀ (G : Hp) (e : EN) (xd : XD) (Wout : WX) (D : Ends), LinkX X.K Wout G xd → LinkS X.K G e D → LinkX X.K (wCls X.K Wout D l') G (xCls xd e l) := by
  induction h with
  | nil => exact ⟨[], .nil, fun G e xd Wout D h _ => h⟩
  | @cons x o i ts st sts np hp hs l hm hg ho su r hdb ih =>
    obtain ⟨l', h1, h2⟩ := ih
    obtain ⟨c', em, kc⟩ := hm
    refine ⟨(c', i, fun a cls d => lowS X.K W0 (ts a cls d)) :: l', .cons ⟨hg, hdb, .inl em⟩ ho (fun a oe cls d pn hz hf => su a oe cls d pn hz hf) h1, fun G e xd Wout D lx ls nm c fs o n m t G' H' s1 s2 rn rx k => ?_⟩
    refine ⟨isSub nm x, T.exm rx.cls kc, fun hb a ha => ?_, fun hb => ?_⟩
    · rw [xCls, if_pos hb] at k
      exact ⟨_, m, G', xd0, enO i e, setO_rep i rn (rx.exc a), s2, link0, k a c o (s2.freeM ha), (ls.mono s1).enO i⟩
    · rw [xCls, if_neg (by rw [hb]; exact Bool.false_ne_true)] at k
      exact h2 G e xd Wout D lx ls nm c fs o n m t G' H' s1 s2 rn rx k
theorem ds_try {body : List Stmt} {h₀ : ExceptHandler} {hds : List ExceptHandler} {l : List ClD} {rb : RS} (T : Tab X.K) (hs : X.stack = X.env :: X.outer) (hf : X.env.frame = some X.env.locals) (hN : X.N.Nodup) (tk : Takes X W)
    (hb : ∀ (W' : WX) (pn : List (Addr × Obj)) (xe : Value → Shared → Prop), Takes (X.tr pn xe) W' → PassesOwn (model X.prog X.w) X.A X.env xe → DSs (X.tr pn xe) W' body rb) (hh : DCl X (h₀ :: hds) l) :
    DS X W (.Try body (h₀ :: hds) [] [] pos) (rTry l rb) := by
  obtain ⟨l', h1, h2⟩ := hh.low T
  refine PS.imp (ps_try_cls (tb := fun W' => lowS X.K W' rb) hs hf hN tk hb h1) fun D t H ⟨n, m, G, xd, e, hn, hs, hl, hr, L⟩ => ?_
  exact ⟨n, m, G, xCls xd e l, e, hn, hs, h2 G e xd W D hl L, hr, L⟩
end
/-! ### in a suite -/
def rXf (a : Addr) (c : Value) (o : Option Addr) (f : Str) (re : RE) : RE := fun xd n m q => re xd n m fun d m1 => ∃ nm fs x, d = .exc a c o nm fs ∧ fs.lookup f = some x ∧ q x m1
section
variable {X : Cx} {W : WX} {pos : Pos} {a : Addr} {oe : Obj} {cls : Value} {d : Option Addr} {pn : List (Addr × Obj)} {e : Expr} {re : RE}
theorem de_xf (T : Tab X.K) (hz : Zc cls d oe) (hf : ∃ vs, oe.data = .fields vs) (he : DE (X.suite a ((a, oe) :: pn)) W e re) (hb : attributeBase e "given" X.env (eval e X.env) = eval e X.env := by rfl) :
    DE (X.suite a ((a, oe) :: pn)) W (.Attribute e "given" pos) (rXf a cls d "given" re) := by
  refine ⟨fun pins s σ H Q I ⟨n, m, G, xd, q, hn, hs, hl, hr, hq⟩ => ?_⟩
  refine attr_of hb (thn (he.run pins s σ H (fun v H1 => ∃ C dd gs y, v = .ref a ∧ cls = .ref C ∧ XfC X.K C ∧ PySem.W.findIn X.K (.ref C) "given" = some none ∧ d = some dd ∧ H1 dd = some (.xd gs) ∧ gs.lookup ("given" : Str) = some y ∧ Q y H1) I ⟨n, m, G, xd, _, hn, hs, hl, hr, fun dx m1 v G1 H1 e1 s1 r1 ⟨nm, fs, y, ed, el, k⟩ => ?_⟩) fun u s1 hh => ?_)
  · subst ed
    cases r1 with
    | exc c h r =>
      obtain ⟨C, ec, xf, _, hg⟩ := T.ref c
      obtain ⟨v, ev, rv⟩ := r.lookup el
      exact ⟨C, _, _, v, rfl, ec, xf, hg, rfl, s1.sub _ _ h, ev, hq y m1 v G1 H1 e1 s1 rv k⟩
    | exc0 c => cases el
  · obtain ⟨x, H1, I1, rx, C, dd, gs, y, rfl, rfl, xf, hg, rfl, hdd, hlk, k⟩ := hh
    obtain rfl : u = Value.ref a := rx
    obtain ⟨ha, _⟩ := I1.pin (a, oe) (List.mem_append_left _ List.mem_cons_self)
    obtain ⟨vs, hd⟩ := hf
    have hx : ObjOk X.prog X.w H1 s1.heap dd (.xd gs) := I1.hok dd _ hdd
    obtain ⟨mA, hns, hr⟩ := hx
    obtain ⟨od, ho, hl⟩ := lookIn_ns hns
    obtain ⟨u, hu, ru⟩ := RelO.some_of (v := y) (o := mA "given") (by rw [← hlk]; exact hr "given")
    have J : PySem.W.InstAt s1.heap a oe C (some od) := ⟨ha, hz.1, by unfold PySem.W.notCls; rw [hd] <;> rfl, by rw [hz.2]; exact ho⟩
    exact HandSPX.exc_get I1.kIn J xf.ga xf.gg xf.exC (PySem.W.findObj_own xf.hdC hg rfl (by rw [hl, hu])) (handed_of ru) ⟨y, H1, I1.tok _, ru, k⟩
/-- isinstance(e, R) of the exception that the suite holds -/
def rIsX (a : Addr) (c : Value) (o : Option Addr) (R : Str) (re : RE) : RE := fun xd n m q => re xd n m fun d m1 => ∃ nm fs, d = .exc a c o nm fs ∧ q (.bl (isSub nm R)) m1
theorem de_isx {R : Str} {p p2 : Pos} (T : Tab X.K) (hz : Zc cls d oe) (hf : ∃ vs, oe.data = .fields vs) (hm : ∃ c, X.mg R = some c ∧ ClsK X.K R c) (hg : Gl (X.suite a ((a, oe) :: pn)) R) (hg2 : Gl (X.suite a ((a, oe) :: pn)) "isinstance") (hm2 : X.mg "isinstance" = none) (he : DE (X.suite a ((a, oe) :: pn)) W e re)
    (hdb : (R == ("__debug__" : Str)) = false := by decide) (hs : starEach [e, .Name R p2] X.env = [(false, eval e X.env), (false, eval (.Name R p2) X.env)] := by rfl) (hs2 : starEach [.Name R p2] X.env = [(false, eval (.Name R p2) X.env)] := by rfl) :
    DE (X.suite a ((a, oe) :: pn)) W (.Call (.Name "isinstance" p) [e, .Name R p2] [] pos) (rIsX a cls d R re) := by
  obtain ⟨c', em, kc⟩ := hm
  refine ⟨fun pins s σ H Q I ⟨n, m, G, xd, q, hn, hsp, hl, hr, hq⟩ => ?_⟩
  refine Call_ (ld_blt I hg2 hm2 bt_isinstance ?_)
  refine PyProof.Rows.callWith_builtin1 (PyProof.Rows.args_cons (thn (he.run pins s σ H (fun v H1 => ∃ C b, v = .ref a ∧ cls = .ref C ∧ ExcC X.K C ∧ PySem.W.kitOne X.K cls c' = some b ∧ (∀ dd, d = some dd → ∃ gs, H1 dd = some (.xd gs)) ∧ Q (.bl b) H1) I ⟨n, m, G, xd, _, hn, hsp, hl, hr, fun dx m1 v G1 H1 e1 s1 r1 ⟨nm, fs, ed, k⟩ => ?_⟩) fun u s1 hh => ?_) hs) hs rfl
  · subst ed
    have key : ClsK X.K nm cls → v = .ref a → (∀ dd, d = some dd → ∃ gs, H1 dd = some (.xd gs)) → ∃ C b, v = .ref a ∧ cls = .ref C ∧ ExcC X.K C ∧ PySem.W.kitOne X.K cls c' = some b ∧ (∀ dd, d = some dd → ∃ gs, H1 dd = some (.xd gs)) ∧ Q (.bl b) H1 := fun c ev hd => by
      obtain ⟨C, ec, _, xc, _⟩ := T.ref c
      exact ⟨C, isSub nm R, ev, ec, xc, T.kit c kc, hd, hq _ m1 _ G1 H1 e1 s1 (.bl _) k⟩
    cases r1 with
    | exc c h r => exact key c rfl fun dd e => by cases e; exact ⟨_, s1.sub _ _ h⟩
    | exc0 c => exact key c rfl nofun
  · obtain ⟨x, H1, I1, rx, C, b, rfl, rfl, xc, hk, hdd, k⟩ := hh
    obtain rfl : u = Value.ref a := rx
    refine PyProof.Rows.args_cons (ld_glob I1 hg em (PyProof.Rows.args_nil ?_) hdb) hs2
    obtain ⟨ha, _⟩ := I1.pin (a, oe) (List.mem_append_left _ List.mem_cons_self)
    obtain ⟨vs, hd⟩ := hf
    have J : ∃ od, PySem.W.InstAt s1.heap a oe C od := by
      obtain ⟨oc, oo, oda, osl⟩ := oe
      obtain ⟨h1, h2⟩ := hz
      dsimp only at h1 h2 hd
      subst h1 h2 hd
      cases oo with
      | none => exact ⟨none, ha, rfl, rfl, trivial⟩
      | some dd =>
        obtain ⟨gs, e⟩ := hdd dd rfl
        have hx : ObjOk X.prog X.w H1 s1.heap dd (.xd gs) := I1.hok dd _ e
        obtain ⟨mA, ⟨o, es, ep, eo, _⟩, _⟩ := hx
        exact ⟨some o, ha, rfl, rfl, eo⟩
    exact PySem.W.kia_one (kitx_exc (ox := oe) xc) I1.kIn J hk (fun z => nomatch z) fun tk => ⟨.bl b, H1, I1.kept (t' := tk) fun _ _ z => z, rfl, k⟩
end
end DL

/-! DL13: the text's exception classes, all at once -/
namespace DL
open PySem PySem.Spec PyProof.Rows L2
def bmOf (R : Addr) (nm : Str) : List Value := if nm = "RestError" then HandSPX.veTail else .ref R :: HandSPX.veTail
theorem bmOf_rest (R : Addr) : bmOf R "RestError" = HandSPX.veTail := if_pos rfl
theorem bmOf_other {R : Addr} {nm : Str} (h : nm ≠ "RestError") : bmOf R nm = .ref R :: HandSPX.veTail := if_neg h
/-- what is read off the text of one of them -/
structure ExF (K : PySem.W.Frag) (R : Addr) (nm : Str) (C : Addr) : Prop where
  ns : PySem.W.nsIn K mainGlobals nm = some (some (.ref C))
  lk : ∃ q N bs sn sub ab col dd k0 k1 k2 k3 k5, K.lookup C = some (excClassObj nm q C N bs (bmOf R nm) true sn sub ab col dd k0 k1 k2 k3 k5 "ValueError.__new__")
  sa : PySem.W.findIn K (.ref C) "__setattr__" = some (some (.builtin "object.__setattr__"))
  ga : PySem.W.findIn K (.ref C) "__getattribute__" = some (some (.builtin "BaseException.__getattribute__"))
  gg : PySem.W.findIn K (.ref C) "__getattr__" = some none
  cl : PySem.W.findIn K (.ref C) "__class__" = some (some (.builtin "object.__class__"))
  gv : PySem.W.findIn K (.ref C) "given" = some none
  kp : PySem.W.keepIn K (.ref C) = true
section
variable {K : PySem.W.Frag} {R C C' : Addr} {nm nm' : Str}
theorem bmOf_ve (R : Addr) (nm : Str) : HandSPX.refsVE (bmOf R nm) = true := by
  unfold bmOf
  split <;> rfl
theorem ExF.sub (h : ExF K R nm C) (v : Value) : PySem.W.subIn K (.ref C) v = some ((Value.ref C :: bmOf R nm).contains v) := by
  obtain ⟨q, N, bs, sn, sub, ab, col, dd, k0, k1, k2, k3, k5, e⟩ := h.lk
  show PySem.W.mroIn K C v = _
  unfold PySem.W.mroIn PySem.W.clsIn
  rw [e]
  rfl
theorem ExF.exC (h : ExF K R nm C) : PySem.W.subIn K (.ref C) (.type "BaseException") = some true := by
  rw [h.sub, List.contains_cons, HandSPX.refsVE_contains _ _ (bmOf_ve R nm)]
  rfl
theorem ExF.tyC (h : ExF K R nm C) : PySem.W.typeIn K (.ref C) = some (.type "type") := by
  obtain ⟨q, N, bs, sn, sub, ab, col, dd, k0, k1, k2, k3, k5, e⟩ := h.lk
  show (K.lookup C).map _ = _
  rw [e]
  rfl
theorem ExF.hdC (h : ExF K R nm C) : PySem.W.hasDictIn K C = true := by
  obtain ⟨q, N, bs, sn, sub, ab, col, dd, k0, k1, k2, k3, k5, e⟩ := h.lk
  unfold PySem.W.hasDictIn PySem.W.clsIn
  rw [e]
  rfl
theorem ExF.mro (h : ExF K R nm C) : PySem.W.mroIn K C (.type "object") = some true := by
  have := h.sub (.type "object")
  rw [List.contains_cons, HandSPX.refsVE_contains _ _ (bmOf_ve R nm)] at this
  exact this
theorem ExF.oex (h : ExF K R nm C) : OexC K C := ⟨by
  obtain ⟨q, N, bs, sn, sub, ab, col, dd, k0, k1, k2, k3, k5, e⟩ := h.lk
  exact ⟨_, _, _, _, _, _, _, _, _, _, _, _, _, _, _, e, bmOf_ve R nm⟩, h.sa, h.exC, h.tyC, h.kp⟩
theorem special_class (K : PySem.W.Frag) : PySem.W.specialIn K (.builtin "object.__class__") "__get__" = some (some (.builtin "getset_descriptor.__get__")) := by
  show (PySem.W.pureOf (PySem.fastBuiltinType "object.__class__")).bind (fun t => PySem.W.findIn K t "__get__") = _
  have e : PySem.W.pureOf (PySem.fastBuiltinType "object.__class__") = some (.type "getset_descriptor") := by decide +kernel
  rw [e]
  show PySem.fastLookup "getset_descriptor" "__get__" = _
  decide +kernel
theorem takes_class (K : PySem.W.Frag) : PySem.W.takesIn K (.builtin "object.__class__") = some true := by
  have e : PySem.W.specialIn K (.builtin "object.__class__") "__set__" = some (some (.builtin "getset_descriptor.__set__")) := by
    show (PySem.W.pureOf (PySem.fastBuiltinType "object.__class__")).bind (fun t => PySem.W.findIn K t "__set__") = _
    have e : PySem.W.pureOf (PySem.fastBuiltinType "object.__class__") = some (.type "getset_descriptor") := by decide +kernel
    rw [e]
    show PySem.fastLookup "getset_descriptor" "__set__" = _
    decide +kernel
  unfold PySem.W.takesIn
  rw [e]
theorem ExF.excC (h : ExF K R nm C) : ExcC K C := ⟨h.ga, h.gg, h.exC, h.hdC, h.cl, special_class K, takes_class K, h.mro⟩
theorem ExF.xfC (h : ExF K R nm C) : XfC K C := ⟨h.ga, h.gg, h.exC, h.hdC⟩
theorem ExF.name (h : ExF K R nm C) (h' : ExF K R nm' C) : nm = nm' := by
  obtain ⟨q, N, bs, sn, sub, ab, col, dd, k0, k1, k2, k3, k5, e⟩ := h.lk
  obtain ⟨q', N', bs', sn', sub', ab', col', dd', j0, j1, j2, j3, j5, e'⟩ := h'.lk
  have z := Option.some.inj (e.symm.trans e')
  have z2 := congrArg (fun o : Obj => match o.data with | .cls cd => cd.name | _ => "") z
  exact z2
theorem ExF.same (h : ExF K R nm C) (h' : ExF K R nm C') : C = C' := by
  have z := h.ns.symm.trans h'.ns
  cases z
  rfl
theorem ExF.isSub (hR : ExF K R "RestError" R) (h : ExF K R nm C) (h' : ExF K R nm' C') : PySem.W.subIn K (.ref C) (.ref C') = some (isSub nm nm') := by
  rw [h.sub, List.contains_cons]
  congr 1
  have t0 : HandSPX.veTail.contains (Value.ref C') = false := rfl
  have e1 : ∀ {x y : Addr} {n n' : Str}, ExF K R n x → ExF K R n' y → (Value.ref x == Value.ref y) = (n == n') := fun {x y n n'} a b => by
    rw [Bool.eq_iff_iff, beq_iff_eq, beq_iff_eq]
    constructor
    · intro z
      cases z
      exact a.name b
    · intro z
      subst z
      rw [a.same b]
  unfold DL.isSub
  rw [e1 h' h]
  unfold bmOf
  split
  · rename_i e
    subst e
    rw [t0, Bool.or_false, Bool.eq_iff_iff, Bool.or_eq_true, beq_iff_eq, beq_iff_eq]
    constructor
    · intro z; exact .inr z
    · rintro (z | z)
      · exact z.symm
      · exact z
  · rw [List.contains_cons, t0, Bool.or_false, e1 h' hR, Bool.eq_iff_iff, Bool.or_eq_true, Bool.or_eq_true, beq_iff_eq, beq_iff_eq, beq_iff_eq]
    constructor
    · rintro (z | z)
      · exact .inl z.symm
      · exact .inr z
    · rintro (z | z)
      · exact .inl z.symm
      · exact .inr z
def exOne (K : PySem.W.Frag) (R : Addr) (nm : Str) : Option Addr → Prop
  | none => PySem.W.nsIn K mainGlobals nm = some none
  | some C => ExF K R nm C
def exAll (K : PySem.W.Frag) (R : Addr) : List Str → List (Option Addr) → Prop
  | nm :: r, o :: os => exOne K R nm o ∧ exAll K R r os
  | [], [] => True
  | _, _ => False
theorem exAll_at : ∀ {l : List Str} {os : List (Option Addr)} {nm : Str} {c : Value}, exAll K R l os → nm ∈ l → PySem.W.nsIn K mainGlobals nm = some (some c) → ∃ C, c = .ref C ∧ ExF K R nm C
  | [], _, _, _, _, hm, _ => by cases hm
  | a :: l, [], _, _, h, _, _ => h.elim
  | a :: l, o :: os, nm, c, h, hm, hn => by
    rcases List.mem_cons.mp hm with rfl | hm
    · cases o with
      | none =>
        have z := (show PySem.W.nsIn K mainGlobals nm = some none from h.1).symm.trans hn
        cases z
      | some C =>
        have x : ExF K R nm C := h.1
        have z := x.ns.symm.trans hn
        cases z
        exact ⟨C, rfl, x⟩
    · exact exAll_at h.2 hm hn
theorem tab_mk (os : List (Option Addr)) (hR : ExF K R "RestError" R) (h : exAll K R excL os) : Tab K := by
  have key : ∀ {nm c}, ClsK K nm c → ∃ C, c = .ref C ∧ ExF K R nm C := fun {nm c} ⟨hm, hn⟩ => exAll_at h hm hn
  refine ⟨fun {nm c nm' c'} a b => ?_, fun {nm c nm' c'} a b => ?_, fun {nm c} a => ?_⟩
  · obtain ⟨C, rfl, e⟩ := key a
    obtain ⟨C', rfl, e'⟩ := key b
    exact PySem.W.exm_ref e'.exC e'.hdC e'.tyC (hR.isSub e e')
  · obtain ⟨C, rfl, e⟩ := key a
    obtain ⟨C', rfl, e'⟩ := key b
    unfold PySem.W.kitOne
    split
    · rename_i z
      cases (beq_iff_eq.mp z)
      rw [e.name e']
      simp [DL.isSub]
    · obtain ⟨cd, hc, _⟩ := PySem.W.any_some e'.hdC
      show (if ((PySem.W.clsIn K C').isSome && PySem.W.typeIn K (.ref C') == some (.type "type")) = true then PySem.W.subIn K (.ref C) (.ref C') else none) = _
      rw [hc, e'.tyC]
      exact hR.isSub e e'
  · obtain ⟨C, rfl, e⟩ := key a
    exact ⟨C, rfl, e.xfC, e.excC, e.gv⟩
end
/-- an exception that keeps what it is given, by its class and its __init__ -/
theorem excD_mk {P : Program} {w : World} {K : PySem.W.Frag} {mg : Str → Option Value} {base : Heap} {R C fI : Addr} {k : Nat} {nm : Str} {fd : FuncData} (x : ExF K R nm C) (hm : nm ∈ excL) (em : mg nm = some (.ref C)) (i : PySem.W.findIn K (.ref C) "__init__" = some (some (.ref fI)))
    (t : PySem.W.typeIn K (.ref fI) = some (.type "function")) (F : FnOk P w K mg base (L2.CX P w) k fI fd ["self", "given"] (spInit K)) (b : Binds K fd ["self", "given"] []) : ExcD P w K mg base k nm := ⟨C, fI, fd, x.oex, i, t, F, b, em, ⟨hm, x.ns⟩, x.gv⟩
end DL

/-! DL14: dicts -/
namespace DL
open PySem PySem.Spec PyProof.Rows L2
section
variable {X : Cx} {W : WX} {pos : Pos}
theorem de_dct0 : DE X W (.Dict [] [] pos) (rC (.dct false [])) := PE.imp pe_dnewK fun t H Q ⟨n, m, G, xd, q, hn, hs, hl, hr, hq⟩ => fun p hp => by
  obtain ⟨s2, e2⟩ := hs.laid hp (.dK [])
  exact hq (.dct false []) m (.ref p) _ _ e2 s2 (.dK upd_same .nil) hr
end
end DL

/-! DL15: instances: made, their fields, methods, properties -/
namespace DL
open PySem PySem.Spec PyProof.Rows L2
/-! ### what is raised is wished for at the caller's slots -/
section
variable {X : Cx} {CX : CXT} {k : Nat} {f C : Addr} {fd : FuncData} {ps : List Str} {sp : Sp} {dvs : List V} {ds : List Value} {E : L2.St → XK} {x m : Str} {p pos apos : Pos} {e o : Expr} {es : List Expr} {ta : TE} {t : TA}
def tMethSD (C : Addr) (m : Str) (sp : Sp) (dvs : List V) (E : L2.St → XK) (ta : TE) (t : TA) : TE := fun σ H Q => ta σ H fun x H1 => ∃ a dx fs, x = .ref a ∧ H1 a = some (.ins C dx fs) ∧ fs.lookup m = none ∧ t σ H1 fun vs H2 => sp (x :: (vs ++ dvs)) H2 Q (E σ)
theorem pe_methSD {pl : Sem Bool} (he : PE X o ta) (c : Cls X.K C) (hm : Meth X.K C m f) (F : FnOk X.prog X.w X.K X.mg X.base CX k f fd ps sp) (hr : Room k X.A) (hb : Binds X.K fd ps ds) (hd : Vals dvs ds) (hx : ∀ σ, PassesAt CX X σ (E σ)) (ha : PA X (e :: es) t)
    (hst : starEach (e :: es) X.env = (false, eval e X.env) :: starEach es X.env := by rfl) (hpl : (backTo pos (starEach es X.env)).any (·.1) = false := by rfl)
    (ht : eval (.Call (.Attribute o m apos) (e :: es) [] pos) X.env = (do
      let ov ← eval o X.env
      standAt apos.atName
      let (f, first) ← holding [ov] (getMethod ov m pl)
      callWith pos f first (backTo pos (starEach (e :: es) X.env)) (backToKw pos (keywordEach [] X.env))) := by rfl) : PE X (.Call (.Attribute o m apos) (e :: es) [] pos) (tMethSD C m sp dvs E ta t) := ⟨fun pins s σ H Q I h => by
  refine PySem.W.methodCall_KW (pl := pl) (thn (he.run pins s σ H _ I h) fun u s1 ⟨x, H1, I1, rx, a, dx, fs, ex, ea, l, q⟩ => ?_) ht
  subst ex
  cases (show u = Value.ref a from rx)
  refine getmeth_ok I1 ea c hm l (PySem.W.callWith_K (first := [.ref a]) (h₀ := X.base) I.ok.mod.kin hm.kp (thn (ha.run pos pins s1 σ H1 _ I1 q) fun us s2 ⟨vs, H2, I2, r, q2⟩ => ⟨I2.kIn, ?_⟩) hst hpl)
  exact run_fnSD (us := .ref a :: us) (vs := .ref a :: vs) F hr hb hd (hx σ) I2 (.cons rfl r) q2⟩
theorem pe_methSD0 {pl : Sem Bool} (he : PE X o ta) (c : Cls X.K C) (hm : Meth X.K C m f) (F : FnOk X.prog X.w X.K X.mg X.base CX k f fd ps sp) (hr : Room k X.A) (hb : Binds X.K fd ps ds) (hd : Vals dvs ds) (hx : ∀ σ, PassesAt CX X σ (E σ))
    (ht : eval (.Call (.Attribute o m apos) [] [] pos) X.env = (do
      let ov ← eval o X.env
      standAt apos.atName
      let (f, first) ← holding [ov] (getMethod ov m pl)
      callWith pos f first (backTo pos (starEach [] X.env)) (backToKw pos (keywordEach [] X.env))) := by rfl) : PE X (.Call (.Attribute o m apos) [] [] pos) (tMethSD C m sp dvs E ta tNil) := ⟨fun pins s σ H Q I h => by
  refine PySem.W.methodCall_KW (pl := pl) (thn (he.run pins s σ H _ I h) fun u s1 ⟨x, H1, I1, rx, a, dx, fs, ex, ea, l, q⟩ => ?_) ht
  subst ex
  cases (show u = Value.ref a from rx)
  exact getmeth_ok I1 ea c hm l (PySem.W.callWith_K0 (first := [.ref a]) I1.kIn hm.kp (run_fnSD (us := [.ref a]) (vs := [.ref a]) F hr hb hd (hx σ) I1 (.cons rfl .nil) q))⟩
def tMakeSD (C : Addr) (sp : Sp) (dvs : List V) (E : L2.St → XK) (t : TA) : TE := fun σ H Q => t σ H fun vs H1 => ∀ x dx, H1 x = none → H1 dx = none → dx ≠ x → sp (.ref x :: (vs ++ dvs)) (upd (upd H1 dx (.own x)) x (.ins C dx [])) (fun v H2 => v = .non ∧ Q (.ref x) H2) (E σ)
theorem run_makeSD {pins : List (Addr × Obj)} {σ : L2.St} {H : Hp} {s : Shared} {Q : VK} {us : List Value} {vs : List V} (M : Mk X.K C f) (F : FnOk X.prog X.w X.K X.mg X.base CX k f fd ps sp) (hr : Room (k + 1) X.A) (hb : Binds X.K fd ps ds) (hd : Vals dvs ds) (hx : PassesAt CX X σ (E σ)) (I : Inv X pins σ H s) (r : Vals vs us)
    (h : ∀ x dx, H x = none → H dx = none → dx ≠ x → sp (.ref x :: (vs ++ dvs)) (upd (upd H dx (.own x)) x (.ins C dx [])) (fun v H2 => v = .non ∧ Q (.ref x) H2) (E σ)) : wpAny (model X.prog X.w) X.A (call (.ref C) us) (EP X pins σ Q) X.xe s := by
  have sp0 := h (s.heap.objs.size + 1) s.heap.objs.size (I.hok.fresh (Nat.le_succ _)) (I.hok.fresh (Nat.le_refl _)) (Nat.ne_of_lt (Nat.lt_succ_self _))
  have J := Inv.made (C := C) I
  have rv : Vals (V.ref (s.heap.objs.size + 1) :: (vs ++ dvs)) (.ref (s.heap.objs.size + 1) :: (us ++ ds)) := .cons rfl (r.append hd)
  have hl : (Value.ref (s.heap.objs.size + 1) :: us ++ ds).length = ps.length := rv.length.symm.trans (F.len _ _ _ _ sp0)
  refine wpAny_call (make_map (f := f) I.kIn M.makes M.init (beq_iff_eq.mp M.fn) (codeAny_mono (F.run _ X.stack _ _ ⟨.ref (s.heap.objs.size + 1) :: us, []⟩ (.ref (s.heap.objs.size + 1) :: (us ++ ds)) _ _ (E σ) (hr.make C us []) (J.env0.make C us []) (hb _ (.ref (s.heap.objs.size + 1) :: us) J.kIn hl) rv sp0) fun z s' q => ?_))
  cases z with
  | error e => exact hx pins _ _ e s' J q
  | ok fl =>
    cases fl with
    | ret u =>
      obtain ⟨v, H', I3, rv, rfl, q3⟩ := J.after q
      exact ⟨rv, ⟨V.ref (s.heap.objs.size + 1), H', I3, rfl, q3⟩⟩
    | _ => exact q.elim
theorem pe_makeSD (M : Mk X.K C f) (F : FnOk X.prog X.w X.K X.mg X.base CX k f fd ps sp) (hr : Room (k + 1) X.A) (hg : Gl X x) (hm : X.mg x = some (.ref C)) (hb : Binds X.K fd ps ds) (hd : Vals dvs ds) (hx : ∀ σ, PassesAt CX X σ (E σ)) (ha : PA X (e :: es) t) (hdb : (x == ("__debug__" : Str)) = false := by decide)
    (he : starEach (e :: es) X.env = (false, eval e X.env) :: starEach es X.env := by rfl) (hpl : (backTo pos (starEach es X.env)).any (·.1) = false := by rfl) : PE X (.Call (.Name x p) (e :: es) [] pos) (tMakeSD C sp dvs E t) := ⟨fun pins s σ H Q I h =>
  wpAny_Call_Name_kw (ld_glob I hg hm (PySem.W.callWith_K (h₀ := X.base) I.ok.mod.kin M.kp (thn (ha.run pos pins s σ H _ I h) fun us s1 ⟨vs, H1, I1, r, q⟩ => ⟨I1.kIn, run_makeSD M F hr hb hd (hx σ) I1 r q⟩) he hpl) hdb)⟩
end
/-! ### over data -/
def insOf : D → Mem → Option (Str × List (Str × D))
  | .ins nm fs, _ => some (nm, fs)
  | .ref p, m => match m p with
    | some (.ins nm fs) => some (nm, fs)
    | _ => none
  | _, _ => none
theorem ins_at {K : PySem.W.Frag} {G H : Hp} {m : Mem} {x : D} {v : V} {nm : Str} {fs : List (Str × D)} (s : Sep K G m H) (r : Rep K G x v) (h : insOf x m = some (nm, fs)) : ∃ p C dx gs, v = .ref p ∧ ClsI K nm C ∧ H p = some (.ins C dx gs) ∧ RepF K G fs gs := by
  cases r with
  | ins c e r =>
    cases h
    exact ⟨_, _, _, _, rfl, c, s.sub _ _ e, r⟩
  | ref p =>
    have h : (match m p with | some (.ins nm fs) => some (nm, fs) | _ => none) = some (nm, fs) := h
    split at h
    · rename_i e
      cases h
      obtain ⟨u, e1, r1⟩ := s.own p _ e
      cases r1 with
      | ins c r => exact ⟨p, _, _, _, rfl, c, e1, r⟩
    · cases h
  | _ => cases h
theorem ClsI.eq {K : PySem.W.Frag} {nm : Str} {C C' : Addr} (h : ClsI K nm C) (h' : ClsI K nm C') : C = C' := by
  have := h.symm.trans h'
  cases this
  rfl
/-- a field is read -/
def rFld (nm f : Str) (ro : RE) : RE := fun xd n m q => ro xd n m fun d m1 => ∃ fs x, insOf d m1 = some (nm, fs) ∧ fs.lookup f = some x ∧ q x m1
structure FldD (K : PySem.W.Frag) (nm f : Str) : Prop where
  ex : ∃ C, ClsI K nm C ∧ Cls K C ∧ NoAttr K C f
section
variable {X : Cx} {W : WX} {pos : Pos} {o e : Expr} {es : List Expr} {ro re : RE} {ra : RA}
theorem de_fld {nm f : Str} (c : FldD X.K nm f) (ho : DE X W o ro) (hb : attributeBase o f X.env (eval o X.env) = eval o X.env := by rfl) : DE X W (.Attribute o f pos) (rFld nm f ro) := by
  obtain ⟨C, ci, cl, na⟩ := c.ex
  refine PE.imp (pe_fld ho hb) fun t H Q ⟨n, m, G, xd, q, hn, hs, hl, hr, hq⟩ => ⟨n, m, G, xd, _, hn, hs, hl, hr, fun d m1 v G1 H1 e1 s1 r1 ⟨fs, x, ei, el, k⟩ => ?_⟩
  obtain ⟨p, C', dx, gs, rfl, ci', hp, rf⟩ := ins_at s1 r1 ei
  obtain ⟨v, ev, rv⟩ := rf.lookup el
  have := ci.eq ci'
  subst this
  exact ⟨p, C, dx, gs, v, rfl, hp, cl, na, ev, hq x m1 v G1 H1 e1 s1 rv k⟩
/-- .. stored -/
def putD (f : Str) (v : D) : List (Str × D) → List (Str × D)
  | [] => [(f, v)]
  | (g, x) :: r => if g = f then (g, v) :: r else (g, x) :: putD f v r
theorem RepF.put {K : PySem.W.Frag} {G : Hp} {f : Str} {d : D} {v : V} (h : Rep K G d v) : ∀ {fs : List (Str × D)} {gs : List (Str × V)}, RepF K G fs gs → RepF K G (putD f d fs) (putF f v gs)
  | _, _, .nil => .cons h .nil
  | _, _, .cons (f := g) q r => by
    unfold putD putF
    by_cases e : g = f
    · rw [if_pos e, if_pos e]
      exact .cons h r
    · rw [if_neg e, if_neg e]
      exact .cons q (RepF.put h r)
theorem RepF.length {K : PySem.W.Frag} {G : Hp} : ∀ {fs : List (Str × D)} {gs : List (Str × V)}, RepF K G fs gs → fs.length = gs.length
  | _, _, .nil => rfl
  | _, _, .cons _ r => by rw [List.length_cons, List.length_cons, RepF.length r]
def rSetF (nm f : Str) (ro re : RE) : RS := fun xd e n m => re xd n m fun d m1 => ro xd n m1 fun x m2 => ∃ a fs, x = .ref a ∧ m2 a = some (.ins nm fs) ∧ fs.length < 1000 ∧ e.nx n (mset m2 a (.ins nm (putD f d fs)))
theorem ds_setF {nm f : Str} {pos' : Pos} (c : FldD X.K nm f) (ho : DE X W o ro) (he : DE X W e re) (hs : swapsWith e (some (.Attribute o f pos')) pos.line X.env = pure false := by rfl) : DS X W (.Assign [.Attribute o f pos'] e pos) (rSetF nm f ro re) := by
  obtain ⟨C, ci, cl, na⟩ := c.ex
  refine PS.imp (ps_fld ho he hs) fun D t H ⟨n, m, G, xd, en, hn, hs, hl, hr, L⟩ => ⟨n, m, G, xd, _, hn, hs, hl, hr, fun d m1 v G1 H1 e1 s1 r1 k => ⟨n, m1, G1, xd, _, hn.mono e1, s1, hl.mono e1, k, fun y m2 w G2 H2 e2 s2 r2 ⟨a, fs, ey, em, hz, k2⟩ => ?_⟩⟩
  subst ey
  cases r2
  obtain ⟨u, e3, r3⟩ := s2.own a _ em
  cases r3 with
  | ins c' r =>
    have := ci.eq c'
    subst this
    exact ⟨a, C, _, _, rfl, e3, cl, na, by rw [← r.length]; exact hz, L.nx n _ t G2 _ (e1.trans e2) (s2.write em (.ins ci (r.put (r1.mono e2)))) (hn.mono (e1.trans e2)) k2⟩
/-- a method is called -/
structure MetD (P : Program) (w : World) (K : PySem.W.Frag) (mg : Str → Option Value) (base : Heap) (k : Nat) (nm m : Str) (ps : List Str) (df : List D) (sp : SpD) : Prop where
  ex : ∃ C f fd ds dvs, ClsI K nm C ∧ Cls K C ∧ Meth K C m f ∧ FnD P w K mg base k f fd ps sp ∧ Binds K fd ps ds ∧ Vals dvs ds ∧ ∀ G, Reps K G df dvs
def rMeth (nm m : Str) (sp : SpD) (df : List D) (ro : RE) (ra : RA) : RE := fun xd n m0 q => ro xd n m0 fun d m1 => ∃ fs, insOf d m1 = some (nm, fs) ∧ fs.lookup m = none ∧ ra xd n m1 fun ds m2 => sp (d :: (ds ++ df)) m2 q fun c fs m' => xd c fs n m'
theorem lowMeth {nm m : Str} {C : Addr} {sp : SpD} {df : List D} {dvs : List V} (ci : ClsI X.K nm C) (hd : ∀ G, Reps X.K G df dvs) : ∀ t H Q, lowE X.K W (rMeth nm m sp df ro ra) t H Q → tMethSD C m (lowSp X.K sp) dvs (WE W) (lowE X.K W ro) (lowA X.K W ra) t H Q := fun t H Q ⟨n, m0, G, xd, q, hn, hs, hl, hr, hq⟩ =>
  ⟨n, m0, G, xd, _, hn, hs, hl, hr, fun d m1 v G1 H1 e1 s1 r1 ⟨fs, ei, el, k⟩ => by
    obtain ⟨p, C', dx, gs, rfl, ci', hp, rf⟩ := ins_at s1 r1 ei
    have := ci.eq ci'
    subst this
    refine ⟨p, dx, gs, rfl, hp, rf.lookup_none el, n, m1, G1, xd, _, hn.mono e1, s1, hl.mono e1, k, fun ds m2 vs G2 H2 e2 s2 r2 k2 => ?_⟩
    exact ⟨d :: (ds ++ df), m2, G2, q, _, .cons (r1.mono e2) (r2.append (hd G2)), s2, k2, fun d m' v G' H' e3 s3 r3 q3 => hq d m' v G' H' (e1.trans (e2.trans e3)) s3 r3 q3, fun nm c fs o m' G' H' e3 s3 r3 q3 => hl nm c fs o n m' t G' H' (e1.trans (e2.trans e3)) s3 (hn.mono (e1.trans (e2.trans e3))) r3 q3⟩⟩
theorem de_meth {j k : Nat} {nm m : Str} {ps : List Str} {df : List D} {sp : SpD} {apos : Pos} {pl : Sem Bool} (c : MetD X.prog X.w X.K X.mg X.base k nm m ps df sp) (hr : Room j X.A) (hk : k ≤ j) (hx : Pas X W) (ho : DE X W o ro) (ha : DA X W (e :: es) ra)
    (hst : starEach (e :: es) X.env = (false, eval e X.env) :: starEach es X.env := by rfl) (hpl : (backTo pos (starEach es X.env)).any (·.1) = false := by rfl)
    (ht : eval (.Call (.Attribute o m apos) (e :: es) [] pos) X.env = (do
      let ov ← eval o X.env
      standAt apos.atName
      let (f, first) ← holding [ov] (getMethod ov m pl)
      callWith pos f first (backTo pos (starEach (e :: es) X.env)) (backToKw pos (keywordEach [] X.env))) := by rfl) : DE X W (.Call (.Attribute o m apos) (e :: es) [] pos) (rMeth nm m sp df ro ra) := by
  obtain ⟨C, f, fd, ds, dvs, ci, cl, me, F, b, v, rd⟩ := c.ex
  exact PE.imp (pe_methSD (pl := pl) ho cl me F (hr.mono hk) b v hx ha hst hpl ht) (lowMeth ci rd)
theorem de_meth0 {j k : Nat} {nm m : Str} {ps : List Str} {df : List D} {sp : SpD} {apos : Pos} {pl : Sem Bool} (c : MetD X.prog X.w X.K X.mg X.base k nm m ps df sp) (hr : Room j X.A) (hk : k ≤ j) (hx : Pas X W) (ho : DE X W o ro)
    (ht : eval (.Call (.Attribute o m apos) [] [] pos) X.env = (do
      let ov ← eval o X.env
      standAt apos.atName
      let (f, first) ← holding [ov] (getMethod ov m pl)
      callWith pos f first (backTo pos (starEach [] X.env)) (backToKw pos (keywordEach [] X.env))) := by rfl) : DE X W (.Call (.Attribute o m apos) [] [] pos) (rMeth nm m sp df ro rNil) := by
  obtain ⟨C, f, fd, ds, dvs, ci, cl, me, F, b, v, rd⟩ := c.ex
  refine PE.imp (pe_methSD0 (pl := pl) ho cl me F (hr.mono hk) b v hx ht) fun t H Q h => ?_
  obtain ⟨n, m0, G, xd, q, hn, hs, hl, hr, hq⟩ := lowMeth ci rd t H Q h
  refine ⟨n, m0, G, xd, q, hn, hs, hl, hr, fun d m1 v G1 H1 e1 s1 r1 k => ?_⟩
  obtain ⟨a, dx, fs, e2, e3, e4, n2, m2, G2, xd2, q2, hn2, hs2, hl2, hr2, hq2⟩ := hq d m1 v G1 H1 e1 s1 r1 k
  exact ⟨a, dx, fs, e2, e3, e4, hq2 [] m2 [] G2 H1 (Same.refl _) hs2 .nil hr2⟩
/-- an instance is made -/
structure MkD (P : Program) (w : World) (K : PySem.W.Frag) (mg : Str → Option Value) (base : Heap) (k : Nat) (nm : Str) (ps : List Str) (df : List D) (sp : SpD) : Prop where
  ex : ∃ C f fd ds dvs, ClsI K nm C ∧ mg nm = some (.ref C) ∧ Mk K C f ∧ FnD P w K mg base k f fd ps sp ∧ Binds K fd ps ds ∧ Vals dvs ds ∧ ∀ G, Reps K G df dvs
def rMake (nm : Str) (sp : SpD) (df : List D) (ra : RA) : RE := fun xd n m0 q => ra xd n m0 fun ds m1 => ∀ p, m1 p = none → sp (.ref p :: (ds ++ df)) (mset m1 p (.ins nm [])) (fun d m2 => d = .non ∧ q (.ref p) m2) fun c fs m' => xd c fs n m'
theorem de_make {j k : Nat} {nm : Str} {ps : List Str} {df : List D} {sp : SpD} {p : Pos} (c : MkD X.prog X.w X.K X.mg X.base k nm ps df sp) (hr : Room j X.A) (hk : k + 1 ≤ j) (hg : Gl X nm) (hx : Pas X W) (ha : DA X W (e :: es) ra) (hdb : (nm == ("__debug__" : Str)) = false := by decide)
    (he : starEach (e :: es) X.env = (false, eval e X.env) :: starEach es X.env := by rfl) (hpl : (backTo pos (starEach es X.env)).any (·.1) = false := by rfl) : DE X W (.Call (.Name nm p) (e :: es) [] pos) (rMake nm sp df ra) := by
  obtain ⟨C, f, fd, ds, dvs, ci, em, mk, F, b, v, rd⟩ := c.ex
  refine PE.imp (pe_makeSD (E := WE W) mk F (hr.mono hk) hg em b v hx ha hdb he hpl) fun t H Q ⟨n, m0, G, xd, q, hn, hs, hl, hr, hq⟩ => ⟨n, m0, G, xd, _, hn, hs, hl, hr, fun ds m1 vs G1 H1 e1 s1 r1 k => fun x dx hx hdx ne => ?_⟩
  have s2 : Sep X.K G1 (mset m1 x (.ins nm [])) (upd (upd H1 dx (.own x)) x (.ins C dx [])) := by
    refine Sep.alloc (H := upd H1 dx (.own x)) ⟨fun b z e => ?_, s1.out, fun b z e => ?_⟩ (by rw [upd_ne (Ne.symm ne)]; exact hx) (.ins ci .nil)
    · rw [upd_ne (fun h => by rw [h, s1.free hdx] at e; cases e)]
      exact s1.sub b z e
    · obtain ⟨u, e2, r2⟩ := s1.own b z e
      exact ⟨u, by rw [upd_ne (ne_of_none e2 hdx)]; exact e2, r2⟩
  refine ⟨.ref x :: (ds ++ df), _, G1, _, _, .cons (.ref x) (r1.append (rd G1)), s2, k x (s1.freeM hx), fun d m' v G' H' e3 s3 r3 ⟨ed, q3⟩ => ?_, fun nm c fs o m' G' H' e3 s3 r3 q3 => hl nm c fs o n m' t G' H' (e1.trans e3) s3 (hn.mono (e1.trans e3)) r3 q3⟩
  subst ed
  cases r3
  exact ⟨rfl, hq _ m' _ G' H' (e1.trans e3) s3 (.ref x) q3⟩
/-- .. and won't change any more: its fields, itself -/
def frz1 (d : D) (m : Mem) : D × Mem := match d with
  | .ref q => match m q with
    | some (.lst ds) => (.lst ds, mdel m q)
    | some (.dct t kvs) => (.dct t kvs, mdel m q)
    | _ => (.ref q, m)
  | d => (d, m)
def frzF : List (Str × D) → Mem → List (Str × D) × Mem
  | [], m => ([], m)
  | (f, d) :: r, m => ((f, (frz1 d m).1) :: (frzF r (frz1 d m).2).1, (frzF r (frz1 d m).2).2)
theorem frz1_ok {K : PySem.W.Frag} {G H : Hp} {m : Mem} {d : D} {v : V} (s : Sep K G m H) (r : Rep K G d v) : ∃ G', Same G G' ∧ Sep K G' (frz1 d m).2 H ∧ Rep K G' (frz1 d m).1 v := by
  cases d with
  | ref q =>
    cases r
    unfold frz1
    cases e : m q with
    | none => exact ⟨G, Same.refl G, by simpa [e] using s, by simpa [e] using Rep.ref q⟩
    | some o =>
      obtain ⟨u, e1, r1⟩ := s.own q o e
      cases o with
      | lst ds =>
        cases r1 with
        | lst r1 =>
          obtain ⟨s2, e2⟩ := s.freeze e e1
          exact ⟨_, e2, by simpa [e] using s2, by simpa [e] using Rep.lst upd_same (r1.mono e2)⟩
      | dct t kvs =>
        cases r1 with
        | dK r1 =>
          obtain ⟨s2, e2⟩ := s.freeze e e1
          exact ⟨_, e2, by simpa [e] using s2, by simpa [e] using Rep.dK upd_same (r1.mono e2)⟩
        | dT z l nd r1 =>
          obtain ⟨s2, e2⟩ := s.freeze e e1
          exact ⟨_, e2, by simpa [e] using s2, by simpa [e] using Rep.dT upd_same z l nd (r1.mono e2)⟩
      | inv P => exact ⟨G, Same.refl G, by simpa [e] using s, by simpa [e] using Rep.ref q⟩
      | ins nm fs => exact ⟨G, Same.refl G, by simpa [e] using s, by simpa [e] using Rep.ref q⟩
  | _ => exact ⟨G, Same.refl G, s, r⟩
theorem frzF_ok {K : PySem.W.Frag} {H : Hp} : ∀ {fs : List (Str × D)} {gs : List (Str × V)} {m : Mem} {G : Hp}, Sep K G m H → RepF K G fs gs → ∃ G', Same G G' ∧ Sep K G' (frzF fs m).2 H ∧ RepF K G' (frzF fs m).1 gs
  | [], _, m, G, s, r => by
    cases r
    exact ⟨G, Same.refl G, s, .nil⟩
  | (f, d) :: fs, _, m, G, s, r => by
    cases r with
    | cons h r =>
      obtain ⟨G1, e1, s1, r1⟩ := frz1_ok s h
      obtain ⟨G2, e2, s2, r2⟩ := frzF_ok s1 (r.mono e1)
      exact ⟨G2, e1.trans e2, s2, .cons (r1.mono e2) r2⟩
def gFrzI : D → Mem → QD → Prop
  | .ref p, m, q => ∃ nm fs, m p = some (.ins nm fs) ∧ q (.ins nm (frzF fs (mdel m p)).1) (frzF fs (mdel m p)).2
  | d, m, q => q d m
def rFrzI (r : RE) : RE := fun xd n m q => r xd n m fun d m1 => gFrzI d m1 q
theorem de_frzI (h : DE X W e re) : DE X W e (rFrzI re) := PE.imp h fun t H Q ⟨n, m, G, xd, q, hn, hs, hl, hr, hq⟩ =>
  ⟨n, m, G, xd, _, hn, hs, hl, hr, fun d m1 v G1 H1 e1 s1 r1 k => by
    cases d with
    | ref p =>
      cases r1
      obtain ⟨nm, fs, e, k⟩ := k
      obtain ⟨u, h1, r1⟩ := s1.own p _ e
      cases r1 with
      | ins c r =>
        obtain ⟨s2, e2⟩ := s1.freeze e h1
        obtain ⟨G3, e3, s3, r3⟩ := frzF_ok s2 (r.mono e2)
        exact hq _ _ _ _ H1 (e1.trans (e2.trans e3)) s3 (.ins c (e3 _ _ upd_same) r3) k
    | _ => exact hq _ m1 _ G1 H1 e1 s1 r1 k⟩
/-- a property is read -/
structure PropD (P : Program) (w : World) (K : PySem.W.Frag) (mg : Str → Option Value) (base : Heap) (k : Nat) (nm f : Str) (sp : SpD) : Prop where
  ex : ∃ C p g fd, ClsI K nm C ∧ Cls K C ∧ PropOf K C f p g ∧ FnD P w K mg base k g fd ["self"] sp ∧ Binds K fd ["self"] []
def rProp (nm : Str) (sp : SpD) (ro : RE) : RE := fun xd n m q => ro xd n m fun d m1 => ∃ fs, insOf d m1 = some (nm, fs) ∧ sp [d] m1 q fun _ _ _ => False
theorem pas_nox {X : Cx} : Passes (L2.CX X.prog X.w) X.nox (fun _ _ _ => False) := fun _ _ _ _ _ _ _ h => by
  obtain ⟨_, _, _, _, _, _, _, _, _, _, _, _, z⟩ := h
  exact z.elim
theorem de_prop {j k : Nat} {nm f : Str} {sp : SpD} (c : PropD X.prog X.w X.K X.mg X.base k nm f sp) (hr : Room j X.A) (hk : k + 1 ≤ j) (ho : DE X W o ro) (hb : attributeBase o f X.env (eval o X.env) = eval o X.env := by rfl) : DE X W (.Attribute o f pos) (rProp nm sp ro) := by
  obtain ⟨C, p, g, fd, ci, cl, po, F, b⟩ := c.ex
  refine PE.imp (pe_prop (E := fun _ _ _ => False) ho cl po F (hr.mono hk) b .nil pas_nox hb) fun t H Q ⟨n, m, G, xd, q, hn, hs, hl, hr, hq⟩ => ⟨n, m, G, xd, _, hn, hs, hl, hr, fun d m1 v G1 H1 e1 s1 r1 ⟨fs, ei, k⟩ => ?_⟩
  obtain ⟨p, C', dx, gs, rfl, ci', hp, rf⟩ := ins_at s1 r1 ei
  have := ci.eq ci'
  subst this
  exact ⟨p, dx, gs, rfl, hp, [d], m1, G1, q, _, .cons r1 .nil, s1, k, fun d m' v G' H' e3 s3 r3 q3 => hq d m' v G' H' (e1.trans e3) s3 r3 q3, fun _ _ _ _ _ _ _ _ _ _ z => z⟩
/-- isinstance(x, C), C a class of the program -/
structure IsD (K : PySem.W.Frag) (mg : Str → Option Value) (nm : Str) : Prop where
  ex : ∃ C, ClsI K nm C ∧ mg nm = some (.ref C) ∧ Cls K C ∧ PySem.W.findIn K (.ref C) "__class__" = some (some (.builtin "object.__class__")) ∧ PySem.W.mroIn K C (.type "object") = some true ∧ PySem.W.typeIn K (.ref C) = some (.type "type") ∧ PySem.W.isClsIn K C = true
def isC (nm : Str) (d : D) (m : Mem) : Option Bool := match insOf d m with
  | some (nm', _) => if nm' = nm then some true else none
  | none => (tyD d m).map fun _ => false
def rIsC (nm : Str) (r : RE) : RE := fun xd n m q => r xd n m fun d m1 => ∃ b, isC nm d m1 = some b ∧ q (.bl b) m1
end
end DL

/-! DL16: zip of two and of three, lists and tuples in any mix -/
namespace DL
open PySem PySem.Spec PyProof.Rows L2
/-- a list (true) or a tuple -/
def SqX (K : PySem.W.Frag) (H : Hp) : Bool → Addr → List V → Prop
  | true, a, xs => SqL K H a xs
  | false, a, xs => SqT K H a xs
def IsX (h : Heap) : Bool → Addr → Array Value → Prop
  | true, a, its => h.IsList a its
  | false, a, its => h.IsTuple a its
def ItX (h : Heap) : Bool → Addr → Addr → Nat → Prop
  | true, it, a, i => h.IsListIter it a i
  | false, it, a, i => h.IsTupleIter it a i
def obX : Bool → Addr → Obj
  | true, a => { cls := .type "list_iterator", data := .fields #[.ref a, .int 0 0] }
  | false, a => { cls := .type "tuple_iterator", data := .fields #[.ref a, .int 0 0] }
section
variable {X : Cx} {pins : List (Addr × Obj)} {σ : L2.St} {H : Hp} {s : Shared} {a b c it : Addr} {t t2 t3 : Bool} {xs ys zs : List V}
theorem SqX.inv (I : Inv X pins σ H s) (h : SqX X.K H t a xs) : ∃ its : List Value, Vals xs its ∧ IsX s.heap t a its.toArray ∧ a < s.heap.objs.size := by
  cases t with
  | true =>
    obtain ⟨its, rv, p, _⟩ := I.list h
    exact ⟨its, rv, p.isList, p.lt⟩
  | false =>
    obtain ⟨its, rv, p, _⟩ := I.tuple h
    exact ⟨its, rv, p, p.lt⟩
theorem SqX.inj (I : Inv X pins σ H s) (h : SqX X.K H t a xs) (h' : SqX X.K H t a ys) : xs = ys := by
  cases t with
  | true => exact I.list_inj h h'
  | false => exact I.tuple_inj h h'
theorem IsX.begins (a : Addr) (its : Array Value) : Begins (.ref a) (obX t a) fun h => IsX h t a its := by
  cases t with
  | true => exact begins_list a its
  | false => exact begins_tuple a its
theorem IsX.draws {prog : Program} {w : World} {A : Around} (hh : A.handled = none) (it a : Addr) (hne : a ≠ it) (its : Array Value) : Draws prog w A it [it, a] its.size (fun i v => its[i]? = some v) (fun i h => ItX h t it a i ∧ IsX h t a its) := by
  cases t with
  | true => exact .list hh it a hne its
  | false => exact .tuple hh it a hne its
theorem ItX.start {h : Heap} (e : h.get? it = some (obX t a)) : ItX h t it a 0 := by
  cases t with
  | true => exact ⟨_, e, rfl, rfl⟩
  | false => exact ⟨_, e, rfl, rfl⟩
theorem ItX.obj {h : Heap} {i : Nat} (x : ItX h t it a i) : ∃ o, h.get? it = some o ∧ ∀ v, o.data ≠ .cell v := by
  cases t with
  | true =>
    obtain ⟨o, e, c, d⟩ := x
    exact ⟨o, e, fun v z => by rw [d] at z; cases z⟩
  | false =>
    obtain ⟨o, e, c, d⟩ := x
    exact ⟨o, e, fun v z => by rw [d] at z; cases z⟩
theorem ItX.at {h h' : Heap} {i : Nat} (x : ItX h t it a i) (k : ∀ o, h.get? it = some o → h'.get? it = some o) : ItX h' t it a i := by
  cases t with
  | true => exact Heap.IsListIter.at x k
  | false => exact Heap.IsTupleIter.at x k
def Itz2 (K : PySem.W.Frag) (t t2 : Bool) (a b : Addr) : It :=
  ⟨fun i H => ∃ xs ys, SqX K H t a xs ∧ SqX K H t2 b ys ∧ i < min xs.length ys.length,
    fun i H v H' => ∃ T x y, v = .ref T ∧ H T = none ∧ H' = upd H T (.tup [x, y]) ∧ (∀ xs, SqX K H t a xs → xs[i]? = some x) ∧ ∀ ys, SqX K H t2 b ys → ys[i]? = some y,
    fun i H => ∃ xs ys, SqX K H t a xs ∧ SqX K H t2 b ys ∧ i = min xs.length ys.length⟩
theorem Vals.at {xs : List V} {us : List Value} {i : Nat} {u : Value} (r : Vals xs us) (h : us[i]? = some u) : ∃ x, xs[i]? = some x ∧ RelV x u := by
  have hl := r.length
  have hi : i < us.length := (List.getElem?_eq_some_iff.mp h).1
  obtain ⟨u', e, ru⟩ := r.get (List.getElem?_eq_getElem (show i < xs.length by omega))
  rw [h] at e
  cases e
  exact ⟨_, List.getElem?_eq_getElem _, ru⟩
theorem turn_zip2 {P : Program} {w : World} {K : PySem.W.Frag} {elts : List Expr} {kk : Nat} {tpos : Pos} {z TI TO i1 i2 : Addr} (S : ZipSep2 z TI TO i1 i2 [i1, a] [i2, b]) (ha : a ≠ i1) (hb : b ≠ i2) :
    Turn P w K (.Tuple elts kk tpos) (Itz2 K t t2 a b) [z, TI, TO, i1, i2] z (fun i h => IsZip h z TI TO .none ∧ IsTupOf2 h TI (.ref i1) (.ref i2) ∧ (∃ x y, IsTupOf2 h TO x y) ∧ ItX h t i1 a i ∧ ItX h t2 i2 b i) where
  mem := by simp
  obj := fun i h st c hc => by
    obtain ⟨hz, hTI, ⟨x, y, hTO⟩, h1, h2⟩ := st
    simp only [List.mem_cons, List.not_mem_nil, or_false] at hc
    rcases hc with rfl | rfl | rfl | rfl | rfl
    · exact ⟨_, hz, fun v q => nomatch q⟩
    · exact ⟨_, hTI, fun v q => nomatch q⟩
    · exact ⟨_, hTO, fun v q => nomatch q⟩
    · exact h1.obj
    · exact h2.obj
  keep := fun i h h' ⟨hz, hTI, ⟨x, y, hTO⟩, h1, h2⟩ k => ⟨k z (by simp) _ hz, k TI (by simp) _ hTI, ⟨x, y, k TO (by simp) _ hTO⟩, h1.at fun o q => k i1 (by simp) o q, h2.at fun o q => k i2 (by simp) o q⟩
  item := by
    intro X hP hw hK hc i pins s σ H E I hf ⟨hz, hTI, hTO, h1, h2⟩ ⟨xs, ys, hqx, hqy, hi⟩
    subst hP hw hK
    obtain ⟨us, ru, px, _⟩ := hqx.inv I
    obtain ⟨ws, rw', py, _⟩ := hqy.inv I
    have W := GoesN.zip2 (prog := X.prog) (w := X.w) (A := X.A) (elts := elts) (x1 := kk) (pos := tpos) S (IsX.draws (A := X.A.in1) (t := t) (I.ok.hd hc) i1 a ha us.toArray) (IsX.draws (A := X.A.in1) (t := t2) (I.ok.hd hc) i2 b hb ws.toArray)
    have e1 := ru.length
    have e2 := rw'.length
    refine W.goes i s _ E (by simpa [← e1, ← e2] using hi) ⟨hz, hTI, hTO, ⟨h1, px⟩, ⟨h2, py⟩⟩ fun v h' tk ⟨T, u, u2, ev, hT, hu, hu2, hTup⟩ ⟨z', TI', TO', ⟨h1', _⟩, ⟨h2', _⟩⟩ hk htk => ?_
    subst ev
    obtain ⟨x, hx, rx⟩ := Vals.at ru (by simpa using hu)
    obtain ⟨y, hy, ry⟩ := Vals.at rw' (by simpa using hu2)
    have new : ObjOk X.prog X.w (upd H T (.tup [x, y])) h' T (.tup [x, y]) := ⟨by show 2 ≤ sizeLine; decide, [u, u2], .cons rx (.cons ry .nil), hTup⟩
    have I1 : Inv X pins σ (upd H T (.tup [x, y])) { s with heap := h', toks := tk } := I.turnedNew (t' := tk) (ch := [z, TI, TO, i1, i2]) (fun c o hb q => hk c o (fun hm => hb (by simp at hm ⊢; rcases hm with h | h | h | h <;> simp [h])) q) hf hT new
    refine ⟨.ref T, _, I1, rfl, ⟨T, x, y, rfl, I.hok.fresh hT, rfl, fun l hl => by rw [hl.inj I hqx]; exact hx, fun l hl => by rw [hl.inj I hqy]; exact hy⟩, ⟨z', TI', TO', h1', h2'⟩, fun c hcm => ?_⟩
    have hlt : c < s.heap.objs.size := by
      obtain ⟨x0, y0, hTO⟩ := hTO
      simp only [List.mem_cons, List.not_mem_nil, or_false] at hcm
      rcases hcm with rfl | rfl | rfl | rfl | rfl
      · exact Heap.lt_size hz
      · exact Heap.lt_size hTI
      · exact Heap.lt_size hTO
      · obtain ⟨o, e, _⟩ := h1.obj; exact Heap.lt_size e
      · obtain ⟨o, e, _⟩ := h2.obj; exact Heap.lt_size e
    rw [upd_ne (Nat.ne_of_lt (Nat.lt_of_lt_of_le hlt hT))]
    exact (hf c hcm).1
  done := by
    intro X hP hw hK hc i pins s σ H E I hf ⟨hz, hTI, hTO, h1, h2⟩ ⟨xs, ys, hqx, hqy, hi⟩
    subst hP hw hK
    obtain ⟨us, ru, px, _⟩ := hqx.inv I
    obtain ⟨ws, rw', py, _⟩ := hqy.inv I
    have W := GoesN.zip2 (prog := X.prog) (w := X.w) (A := X.A) (elts := elts) (x1 := kk) (pos := tpos) S (IsX.draws (A := X.A.in1) (t := t) (I.ok.hd hc) i1 a ha us.toArray) (IsX.draws (A := X.A.in1) (t := t2) (I.ok.hd hc) i2 b hb ws.toArray)
    have e1 := ru.length
    have e2 := rw'.length
    have ei : i = min us.toArray.size ws.toArray.size := by simpa [← e1, ← e2] using hi
    rw [ei] at h1 h2
    exact W.stops s _ E ⟨hz, hTI, hTO, ⟨h1, px⟩, ⟨h2, py⟩⟩ fun h' tk hk htk => I.turnedL (t' := tk) (ch := [z, TI, TO, i1, i2]) (fun c o hb q => hk c o (fun hm => hb (by simp at hm ⊢; rcases hm with h | h | h | h <;> simp [h])) q) hf
  self := fun A i s Q E st h => wpAny_pyIter_zip st.1 h
theorem sep2 {n a b : Nat} (ha : a < n) (hb : b < n) : ZipSep2 (n + 4) (n + 2) (n + 3) n (n + 1) [n, a] [n + 1, b] := by
  constructor <;> simp only [List.mem_cons, List.not_mem_nil, or_false, not_or, ne_eq, or_true, true_or] <;> (repeat' apply And.intro) <;> (intro h; have h2 : (_ : Nat) = _ := h; omega)
def iZip2 (K : PySem.W.Frag) (ta : TA) : TI := fun σ H R => ta σ H fun vs H1 => ∃ a b t t2 xs ys, vs = [.ref a, .ref b] ∧ SqX K H1 t a xs ∧ SqX K H1 t2 b ys ∧ R (Itz2 K t t2 a b) H1
theorem pi_zip2 {e e2 : Expr} {ta : TA} {p pos tpos : Pos} {elts : List Expr} {kk : Nat} (hg : Gl X "zip") (hm : X.mg "zip" = none) (ha : PA X [e, e2] ta)
    (hs : starEach [e, e2] X.env = (false, eval e X.env) :: starEach [e2] X.env := by rfl) (hpl : (backTo pos (starEach [e2] X.env)).any (·.1) = false := by rfl) : PI X (.Tuple elts kk tpos) (.Call (.Name "zip" p) [e, e2] [] pos) (iZip2 X.K ta) := by
  refine ⟨fun pins s σ H R I h => ?_⟩
  refine Call_ (ld_blt I hg hm PyProof.Rows.boot_zip (PyProof.Rows.callWith_type1 (thn (ha.run pos pins s σ H _ I h) fun us s1 ⟨vs, H1, I1, r1, a, b, t, t2, xs, ys, ev, hqx, hqy, q⟩ => ?_) hs hpl))
  subst ev
  cases r1 with
  | cons r rr =>
    cases rr with
    | cons r' rr =>
      cases rr; cases r; cases r'
      obtain ⟨us, ru, px, la⟩ := hqx.inv I1
      obtain ⟨ws, rw', py, lb⟩ := hqy.inv I1
      refine zip_begins2 (IsX.begins a us.toArray) (IsX.begins b ws.toArray) px py fun h' hz hTI hTO h1 h2 hsz hk => wpAny_pyIter_zip hz ?_
      refine ⟨s1.heap.objs.size + 4, [s1.heap.objs.size + 4, s1.heap.objs.size + 2, s1.heap.objs.size + 3, s1.heap.objs.size, s1.heap.objs.size + 1], _, _, H1, rfl, I1.kept (t' := s1.toks) hk, turn_zip2 (sep2 la lb) (Nat.ne_of_lt la) (Nat.ne_of_lt (Nat.lt_succ_of_lt lb)), ⟨hz, hTI, ⟨_, _, hTO⟩, .start h1, .start h2⟩, fun c hcm => ?_, q⟩
      have hle : s1.heap.objs.size ≤ c := by
        simp only [List.mem_cons, List.not_mem_nil, or_false] at hcm
        rcases hcm with z | z | z | z | z <;> rw [z] <;> first | exact Nat.le_add_right _ _ | exact Nat.le_refl _
      exact I1.fpOk hle (I1.hok.fresh hle)
/-! three -/
def Itz3 (K : PySem.W.Frag) (t t2 t3 : Bool) (a b c : Addr) : It :=
  ⟨fun i H => ∃ xs ys zs, SqX K H t a xs ∧ SqX K H t2 b ys ∧ SqX K H t3 c zs ∧ i < min (min xs.length ys.length) zs.length,
    fun i H v H' => ∃ T x y u, v = .ref T ∧ H T = none ∧ H' = upd H T (.tup [x, y, u]) ∧ (∀ xs, SqX K H t a xs → xs[i]? = some x) ∧ (∀ ys, SqX K H t2 b ys → ys[i]? = some y) ∧ ∀ zs, SqX K H t3 c zs → zs[i]? = some u,
    fun i H => ∃ xs ys zs, SqX K H t a xs ∧ SqX K H t2 b ys ∧ SqX K H t3 c zs ∧ i = min (min xs.length ys.length) zs.length⟩
theorem turn_zip3 {P : Program} {w : World} {K : PySem.W.Frag} {elts : List Expr} {kk : Nat} {tpos : Pos} {z TI TO i1 i2 i3 : Addr} (S : ZipSep3 z TI TO i1 i2 i3 [i1, a] [i2, b] [i3, c]) (ha : a ≠ i1) (hb : b ≠ i2) (hc' : c ≠ i3) :
    Turn P w K (.Tuple elts kk tpos) (Itz3 K t t2 t3 a b c) [z, TI, TO, i1, i2, i3] z (fun i h => IsZip h z TI TO .none ∧ IsTupOf3 h TI (.ref i1) (.ref i2) (.ref i3) ∧ (∃ x y u, IsTupOf3 h TO x y u) ∧ ItX h t i1 a i ∧ ItX h t2 i2 b i ∧ ItX h t3 i3 c i) where
  mem := by simp
  obj := fun i h st d hd => by
    obtain ⟨hz, hTI, ⟨x, y, u, hTO⟩, h1, h2, h3⟩ := st
    simp only [List.mem_cons, List.not_mem_nil, or_false] at hd
    rcases hd with rfl | rfl | rfl | rfl | rfl | rfl
    · exact ⟨_, hz, fun v q => nomatch q⟩
    · exact ⟨_, hTI, fun v q => nomatch q⟩
    · exact ⟨_, hTO, fun v q => nomatch q⟩
    · exact h1.obj
    · exact h2.obj
    · exact h3.obj
  keep := fun i h h' ⟨hz, hTI, ⟨x, y, u, hTO⟩, h1, h2, h3⟩ k => ⟨k z (by simp) _ hz, k TI (by simp) _ hTI, ⟨x, y, u, k TO (by simp) _ hTO⟩, h1.at fun o q => k i1 (by simp) o q, h2.at fun o q => k i2 (by simp) o q, h3.at fun o q => k i3 (by simp) o q⟩
  item := by
    intro X hP hw hK hc i pins s σ H E I hf ⟨hz, hTI, hTO, h1, h2, h3⟩ ⟨xs, ys, zs, hqx, hqy, hqz, hi⟩
    subst hP hw hK
    obtain ⟨us, ru, px, _⟩ := hqx.inv I
    obtain ⟨ws, rw', py, _⟩ := hqy.inv I
    obtain ⟨vs, rv, pz, _⟩ := hqz.inv I
    have W := GoesN.zip3 (prog := X.prog) (w := X.w) (A := X.A) (elts := elts) (x1 := kk) (pos := tpos) S (IsX.draws (A := X.A.in1) (t := t) (I.ok.hd hc) i1 a ha us.toArray) (IsX.draws (A := X.A.in1) (t := t2) (I.ok.hd hc) i2 b hb ws.toArray) (IsX.draws (A := X.A.in1) (t := t3) (I.ok.hd hc) i3 c hc' vs.toArray)
    have e1 := ru.length
    have e2 := rw'.length
    have e3 := rv.length
    refine W.goes i s _ E (by simpa [← e1, ← e2, ← e3] using hi) ⟨hz, hTI, hTO, ⟨h1, px⟩, ⟨h2, py⟩, ⟨h3, pz⟩⟩ fun v h' tk ⟨T, u, u2, u3, ev, hT, hu, hu2, hu3, hTup⟩ ⟨z', TI', TO', ⟨h1', _⟩, ⟨h2', _⟩, ⟨h3', _⟩⟩ hk htk => ?_
    subst ev
    obtain ⟨x, hx, rx⟩ := Vals.at ru (by simpa using hu)
    obtain ⟨y, hy, ry⟩ := Vals.at rw' (by simpa using hu2)
    obtain ⟨y3, hy3, ry3⟩ := Vals.at rv (by simpa using hu3)
    have new : ObjOk X.prog X.w (upd H T (.tup [x, y, y3])) h' T (.tup [x, y, y3]) := ⟨by show 3 ≤ sizeLine; decide, [u, u2, u3], .cons rx (.cons ry (.cons ry3 .nil)), hTup⟩
    have I1 : Inv X pins σ (upd H T (.tup [x, y, y3])) { s with heap := h', toks := tk } := I.turnedNew (t' := tk) (ch := [z, TI, TO, i1, i2, i3]) (fun c o hb q => hk c o (fun hm => hb (by simp at hm ⊢; rcases hm with h | h | h | h | h <;> simp [h])) q) hf hT new
    refine ⟨.ref T, _, I1, rfl, ⟨T, x, y, y3, rfl, I.hok.fresh hT, rfl, fun l hl => by rw [hl.inj I hqx]; exact hx, fun l hl => by rw [hl.inj I hqy]; exact hy, fun l hl => by rw [hl.inj I hqz]; exact hy3⟩, ⟨z', TI', TO', h1', h2', h3'⟩, fun d hcm => ?_⟩
    have hlt : d < s.heap.objs.size := by
      obtain ⟨x0, y0, u0, hTO⟩ := hTO
      simp only [List.mem_cons, List.not_mem_nil, or_false] at hcm
      rcases hcm with rfl | rfl | rfl | rfl | rfl | rfl
      · exact Heap.lt_size hz
      · exact Heap.lt_size hTI
      · exact Heap.lt_size hTO
      · obtain ⟨o, e, _⟩ := h1.obj; exact Heap.lt_size e
      · obtain ⟨o, e, _⟩ := h2.obj; exact Heap.lt_size e
      · obtain ⟨o, e, _⟩ := h3.obj; exact Heap.lt_size e
    rw [upd_ne (Nat.ne_of_lt (Nat.lt_of_lt_of_le hlt hT))]
    exact (hf d hcm).1
  done := by
    intro X hP hw hK hc i pins s σ H E I hf ⟨hz, hTI, hTO, h1, h2, h3⟩ ⟨xs, ys, zs, hqx, hqy, hqz, hi⟩
    subst hP hw hK
    obtain ⟨us, ru, px, _⟩ := hqx.inv I
    obtain ⟨ws, rw', py, _⟩ := hqy.inv I
    obtain ⟨vs, rv, pz, _⟩ := hqz.inv I
    have W := GoesN.zip3 (prog := X.prog) (w := X.w) (A := X.A) (elts := elts) (x1 := kk) (pos := tpos) S (IsX.draws (A := X.A.in1) (t := t) (I.ok.hd hc) i1 a ha us.toArray) (IsX.draws (A := X.A.in1) (t := t2) (I.ok.hd hc) i2 b hb ws.toArray) (IsX.draws (A := X.A.in1) (t := t3) (I.ok.hd hc) i3 c hc' vs.toArray)
    have e1 := ru.length
    have e2 := rw'.length
    have e3 := rv.length
    have ei : i = min (min us.toArray.size ws.toArray.size) vs.toArray.size := by simpa [← e1, ← e2, ← e3] using hi
    rw [ei] at h1 h2 h3
    exact W.stops s _ E ⟨hz, hTI, hTO, ⟨h1, px⟩, ⟨h2, py⟩, ⟨h3, pz⟩⟩ fun h' tk hk htk => I.turnedL (t' := tk) (ch := [z, TI, TO, i1, i2, i3]) (fun c o hb q => hk c o (fun hm => hb (by simp at hm ⊢; rcases hm with h | h | h | h | h <;> simp [h])) q) hf
  self := fun A i s Q E st h => wpAny_pyIter_zip st.1 h
theorem sep3 {n a b c : Nat} (ha : a < n) (hb : b < n) (hc : c < n) : ZipSep3 (n + 5) (n + 3) (n + 4) n (n + 1) (n + 2) [n, a] [n + 1, b] [n + 2, c] := by
  constructor <;> simp only [List.mem_cons, List.not_mem_nil, or_false, not_or, ne_eq, or_true, true_or] <;> (repeat' apply And.intro) <;> (intro h; have h2 : (_ : Nat) = _ := h; omega)
def iZip3 (K : PySem.W.Frag) (ta : TA) : TI := fun σ H R => ta σ H fun vs H1 => ∃ a b c t t2 t3 xs ys zs, vs = [.ref a, .ref b, .ref c] ∧ SqX K H1 t a xs ∧ SqX K H1 t2 b ys ∧ SqX K H1 t3 c zs ∧ R (Itz3 K t t2 t3 a b c) H1
theorem pi_zip3 {e e2 e3 : Expr} {ta : TA} {p pos tpos : Pos} {elts : List Expr} {kk : Nat} (hg : Gl X "zip") (hm : X.mg "zip" = none) (ha : PA X [e, e2, e3] ta)
    (hs : starEach [e, e2, e3] X.env = (false, eval e X.env) :: starEach [e2, e3] X.env := by rfl) (hpl : (backTo pos (starEach [e2, e3] X.env)).any (·.1) = false := by rfl) : PI X (.Tuple elts kk tpos) (.Call (.Name "zip" p) [e, e2, e3] [] pos) (iZip3 X.K ta) := by
  refine ⟨fun pins s σ H R I h => ?_⟩
  refine Call_ (ld_blt I hg hm PyProof.Rows.boot_zip (PyProof.Rows.callWith_type1 (thn (ha.run pos pins s σ H _ I h) fun us s1 ⟨vs, H1, I1, r1, a, b, c, t, t2, t3, xs, ys, zs, ev, hqx, hqy, hqz, q⟩ => ?_) hs hpl))
  subst ev
  cases r1 with
  | cons r rr =>
    cases rr with
    | cons r' rr =>
      cases rr with
      | cons r'' rr =>
        cases rr; cases r; cases r'; cases r''
        obtain ⟨us, ru, px, la⟩ := hqx.inv I1
        obtain ⟨ws, rw', py, lb⟩ := hqy.inv I1
        obtain ⟨vs, rv, pz, lc⟩ := hqz.inv I1
        refine zip_begins3 (IsX.begins a us.toArray) (IsX.begins b ws.toArray) (IsX.begins c vs.toArray) px py pz fun h' hz hTI hTO h1 h2 h3 hsz hk => wpAny_pyIter_zip hz ?_
        refine ⟨s1.heap.objs.size + 5, [s1.heap.objs.size + 5, s1.heap.objs.size + 3, s1.heap.objs.size + 4, s1.heap.objs.size, s1.heap.objs.size + 1, s1.heap.objs.size + 2], _, _, H1, rfl, I1.kept (t' := s1.toks) hk, turn_zip3 (sep3 la lb lc) (Nat.ne_of_lt la) (Nat.ne_of_lt (Nat.lt_succ_of_lt lb)) (Nat.ne_of_lt (Nat.lt_succ_of_lt (Nat.lt_succ_of_lt lc))), ⟨hz, hTI, ⟨_, _, _, hTO⟩, .start h1, .start h2, .start h3⟩, fun d hcm => ?_, q⟩
        have hle : s1.heap.objs.size ≤ d := by
          simp only [List.mem_cons, List.not_mem_nil, or_false] at hcm
          rcases hcm with z | z | z | z | z | z <;> rw [z] <;> first | exact Nat.le_add_right _ _ | exact Nat.le_refl _
        exact I1.fpOk hle (I1.hok.fresh hle)
end
/-! ### over data: what is walked stays as it is from here on -/
/-- the items; a list of one's own won't change any more -/
def frzL : D → Mem → Option (List D × Mem)
  | .lst ds, m => some (ds, m)
  | .tup ds, m => some (ds, m)
  | .ref p, m => match m p with
    | some (.lst ds) => some (ds, mdel m p)
    | _ => none
  | _, _ => none
theorem frzL_ok {K : PySem.W.Frag} {G H : Hp} {m m' : Mem} {d : D} {v : V} {ds : List D} (s : Sep K G m H) (r : Rep K G d v) (h : frzL d m = some (ds, m')) : ∃ G' p t vs, Same G G' ∧ Sep K G' m' H ∧ v = .ref p ∧ SqX K G' t p vs ∧ (∀ G2 H2, Same G' G2 → Same G2 H2 → SqX K H2 t p vs) ∧ Reps K G' ds vs := by
  cases r with
  | lst e r =>
    cases h
    exact ⟨G, _, true, _, Same.refl G, s, rfl, SqL.of e, fun G2 H2 a b => SqL.of (b _ _ (a _ _ e)), r⟩
  | tup e r =>
    cases h
    exact ⟨G, _, false, _, Same.refl G, s, rfl, SqT.of e, fun G2 H2 a b => SqT.of (b _ _ (a _ _ e)), r⟩
  | ref p =>
    have h : (match m p with | some (.lst ds) => some (ds, mdel m p) | _ => none) = some (ds, m') := h
    split at h
    · rename_i e
      cases h
      obtain ⟨vs, h1, r1⟩ := s.lst e
      obtain ⟨s2, e2⟩ := s.freeze e h1
      exact ⟨_, p, true, vs, e2, s2, rfl, SqL.of upd_same, fun G2 H2 a b => SqL.of (b _ _ (a _ _ upd_same)), r1.mono e2⟩
    · cases h
  | _ => cases h
section
variable {X : Cx} {W : WX} {pos : Pos} {e e2 e3 : Expr} {ra : RA}
def zipD2 (xs ys : List D) : List D := (xs.zip ys).map fun p => .tup [p.1, p.2]
def zipD3 (xs ys zs : List D) : List D := ((xs.zip ys).zip zs).map fun p => .tup [p.1.1, p.1.2, p.2]
def rZip2 (r : RA) : RI := fun xd n m q => r xd n m fun ds m1 => ∃ x y xs ys m2 m3, ds = [x, y] ∧ frzL x m1 = some (xs, m2) ∧ frzL y m2 = some (ys, m3) ∧ q (zipD2 xs ys) m3
def rZip3 (r : RA) : RI := fun xd n m q => r xd n m fun ds m1 => ∃ x y z xs ys zs m2 m3 m4, ds = [x, y, z] ∧ frzL x m1 = some (xs, m2) ∧ frzL y m2 = some (ys, m3) ∧ frzL z m3 = some (zs, m4) ∧ q (zipD3 xs ys zs) m4
theorem di_zip2 {p tpos : Pos} {elts : List Expr} {kk : Nat} (hg : Gl X "zip") (hm : X.mg "zip" = none) (ha : DA X W [e, e2] ra)
    (hs : starEach [e, e2] X.env = (false, eval e X.env) :: starEach [e2] X.env := by rfl) (hpl : (backTo pos (starEach [e2] X.env)).any (·.1) = false := by rfl) : DI X W (.Tuple elts kk tpos) (.Call (.Name "zip" p) [e, e2] [] pos) (rZip2 ra) :=
  PI.imp (pi_zip2 hg hm ha hs hpl) fun t H R ⟨n, m, G, xd, q, hn, hs, hl, hr, hq⟩ => ⟨n, m, G, xd, _, hn, hs, hl, hr, fun ds m1 vs G1 H1 e1 s1 r1 ⟨x, y, xs, ys, m2, m3, ed, ex, ey, k⟩ => by
    subst ed
    cases r1 with
    | cons rx r1 =>
      cases r1 with
      | cons ry r1 =>
        cases r1
        obtain ⟨G2, p, tx, us, a2, s2, rfl, qx, qx', rux⟩ := frzL_ok s1 rx ex
        obtain ⟨G3, p', ty, ws, a3, s3, rfl, qy, qy', ruy⟩ := frzL_ok s2 (ry.mono a2) ey
        have lx := rux.length
        have ly := ruy.length
        have cx : ∀ {G' H' : Hp} {m' : Mem}, Same G3 G' → Sep X.K G' m' H' → SqX X.K H' tx p us := fun a b => qx' _ _ (a3.trans a) b.sub
        have cy : ∀ {G' H' : Hp} {m' : Mem}, Same G3 G' → Sep X.K G' m' H' → SqX X.K H' ty p' ws := fun a b => qy' _ _ a b.sub
        refine ⟨p, p', tx, ty, us, ws, rfl, cx (Same.refl _) s3, cy (Same.refl _) s3, hq _ m3 G3 H1 _ (e1.trans (a2.trans a3)) s3 ⟨fun i H' m' G' a b hi => ⟨us, ws, cx a b, cy a b, by simpa [zipD2, lx, ly] using hi⟩, fun i x H' H2 m' G' a b hi ⟨T, z, z2, ev, hT, eH, hx, hy⟩ => ?_, fun H' m' G' a b => ⟨us, ws, cx a b, cy a b, by simp [zipD2, lx, ly]⟩⟩ k⟩
        subst ev eH
        obtain ⟨d1, f1, g1⟩ := (rux.mono a3).getV (hx us (cx a b))
        obtain ⟨d2, f2, g2⟩ := ruy.getV (hy ws (cy a b))
        obtain ⟨s5, e5⟩ := b.laid hT (.tup [z, z2])
        refine ⟨_, .tup [d1, d2], ?_, e5, s5, .tup upd_same (.cons (g1.mono (a.trans e5)) (.cons (g2.mono (a.trans e5)) .nil))⟩
        simp [zipD2, List.getElem?_zip_eq_some, f1, f2]⟩
theorem di_zip3 {p tpos : Pos} {elts : List Expr} {kk : Nat} (hg : Gl X "zip") (hm : X.mg "zip" = none) (ha : DA X W [e, e2, e3] ra)
    (hs : starEach [e, e2, e3] X.env = (false, eval e X.env) :: starEach [e2, e3] X.env := by rfl) (hpl : (backTo pos (starEach [e2, e3] X.env)).any (·.1) = false := by rfl) : DI X W (.Tuple elts kk tpos) (.Call (.Name "zip" p) [e, e2, e3] [] pos) (rZip3 ra) :=
  PI.imp (pi_zip3 hg hm ha hs hpl) fun t H R ⟨n, m, G, xd, q, hn, hs, hl, hr, hq⟩ => ⟨n, m, G, xd, _, hn, hs, hl, hr, fun ds m1 vs G1 H1 e1 s1 r1 ⟨x, y, z, xs, ys, zs, m2, m3, m4, ed, ex, ey, ez, k⟩ => by
    subst ed
    cases r1 with
    | cons rx r1 =>
      cases r1 with
      | cons ry r1 =>
        cases r1 with
        | cons rz r1 =>
          cases r1
          obtain ⟨G2, p, tx, us, a2, s2, rfl, qx, qx', rux⟩ := frzL_ok s1 rx ex
          obtain ⟨G3, p', ty, ws, a3, s3, rfl, qy, qy', ruy⟩ := frzL_ok s2 (ry.mono a2) ey
          obtain ⟨G4, p'', tz, vs, a4, s4, rfl, qz, qz', ruz⟩ := frzL_ok s3 (rz.mono (a2.trans a3)) ez
          have lx := rux.length
          have ly := ruy.length
          have lz := ruz.length
          have cx : ∀ {G' H' : Hp} {m' : Mem}, Same G4 G' → Sep X.K G' m' H' → SqX X.K H' tx p us := fun a b => qx' _ _ (a3.trans (a4.trans a)) b.sub
          have cy : ∀ {G' H' : Hp} {m' : Mem}, Same G4 G' → Sep X.K G' m' H' → SqX X.K H' ty p' ws := fun a b => qy' _ _ (a4.trans a) b.sub
          have cz : ∀ {G' H' : Hp} {m' : Mem}, Same G4 G' → Sep X.K G' m' H' → SqX X.K H' tz p'' vs := fun a b => qz' _ _ a b.sub
          refine ⟨p, p', p'', tx, ty, tz, us, ws, vs, rfl, cx (Same.refl _) s4, cy (Same.refl _) s4, cz (Same.refl _) s4, hq _ m4 G4 H1 _ (e1.trans (a2.trans (a3.trans a4))) s4 ⟨fun i H' m' G' a b hi => ⟨us, ws, vs, cx a b, cy a b, cz a b, by simpa [zipD3, lx, ly, lz] using hi⟩, fun i x H' H2 m' G' a b hi ⟨T, z, z2, z3, ev, hT, eH, hx, hy, hz⟩ => ?_, fun H' m' G' a b => ⟨us, ws, vs, cx a b, cy a b, cz a b, by simp [zipD3, lx, ly, lz]⟩⟩ k⟩
          subst ev eH
          obtain ⟨d1, f1, g1⟩ := (rux.mono (a3.trans a4)).getV (hx us (cx a b))
          obtain ⟨d2, f2, g2⟩ := (ruy.mono a4).getV (hy ws (cy a b))
          obtain ⟨d3, f3, g3⟩ := ruz.getV (hz vs (cz a b))
          obtain ⟨s5, e5⟩ := b.laid hT (.tup [z, z2, z3])
          refine ⟨_, .tup [d1, d2, d3], ?_, e5, s5, .tup upd_same (.cons (g1.mono (a.trans e5)) (.cons (g2.mono (a.trans e5)) (.cons (g3.mono (a.trans e5)) .nil)))⟩
          simp [zipD3, List.getElem?_zip_eq_some, f1, f2, f3]
          exact ⟨_, _, _, ⟨⟨rfl, rfl⟩, rfl⟩, rfl, rfl, rfl⟩⟩
end
end DL

/-! DL17: defs with defaults; isinstance of own classes -/
namespace DL
open PySem PySem.Spec PyProof.Rows L2
section
variable {P : Program} {w : World} {K : PySem.W.Frag} {mg : Str → Option Value} {base : Heap}
/-- THE RULE for a def with defaults -/
theorem fnSd {x qual : Str} {st : Stmt} {f : Addr} {fd : FuncData} {N ps : List Str} {k : Nat} {sp : SpD} {dvs : List V} (F : FunD K x qual (defArgs st) (defBody st) (defScope st) dvs [] f fd) (S : FnScope N ps (defScope st)) (len : ∀ ds m q xf, sp ds m q xf → ds.length = ps.length)
    (hbody : ∀ (cdv : Value) (A : Around) (outer : List Env) (s : Shared) (H : Hp) (E : XK), Room k (A.deeper (envOfC qual (defScope st) s.heap.objs.size f cdv)) →
      ∃ r, DSs (cxOf (L2.CX P w) P w K mg base N qual (defScope st) f cdv A outer s H E) (WF E) (defBody st) r ∧ ∀ ds m q xf, sp ds m q xf → r (xdD xf) (enD q) (nvs N ds) m) : FnD P w K mg base (k + 1) f fd ps sp := by
  refine F.ok S (fun vs H Q E ⟨ds, m, G, q, xf, hr, hs, h, _⟩ => by rw [← hr.length]; exact len ds m q xf h) fun cdv A outer s H vs Q E hr ⟨ds, m, G, q, xf, rs, hs, h, hq, hx⟩ => ?_
  obtain ⟨r, hd, hv⟩ := hbody cdv A outer s H E hr
  refine ⟨_, hd, _, m, G, _, _, ?_, hs, ?_, hv ds m q xf h, ?_⟩
  · unfold nvs L2.start
    rw [← rs.length]
    exact RepN.start _ rs
  · exact fun nm c fs o _ m' t G' H' e1 s1 _ r1 ⟨m1, z, k⟩ => hx nm c fs o m1 G' H' e1 (s1.sub' z) r1 k
  · exact ⟨fun n m' t G' H' e1 s1 _ ⟨m1, z, k⟩ => hq .non m1 .non G' H' e1 (s1.sub' z) .non k, fun d m' v G' H' e1 s1 r1 ⟨m1, z, k⟩ => hq d m1 v G' H' e1 (s1.sub' z) r1 k, fun _ _ _ _ _ _ _ _ k => k.elim, fun _ _ _ _ _ _ _ _ k => k.elim⟩
end
section
variable {X : Cx} {W : WX} {pos : Pos} {e : Expr} {re : RE}
theorem tyD_class (K : PySem.W.Frag) {C : Addr} (ht : PySem.W.typeIn K (.ref C) = some (.type "type")) (hi : PySem.W.isClsIn K C = true) : ∀ a ∈ ["NoneType", "bool", "int", "str", "tuple", "list", "dict"], PySem.W.kitOne K (.type a) (.ref C) = some false := by
  intro a ha
  have hi' : (PySem.W.clsIn K C).isSome = true := hi
  have key : ∀ l : List Value, (∀ v ∈ l, ∃ n, v = Value.type n) → l.contains (Value.ref C) = false := fun l hl => by
    rw [Bool.eq_false_iff]
    intro z
    rw [List.contains_iff_mem] at z
    obtain ⟨n, e⟩ := hl _ z
    cases e
  show (if (Value.type a == Value.ref C) = true then some true else (if ((PySem.W.clsIn K C).isSome && PySem.W.typeIn K (.ref C) == some (.type "type")) = true then (fastBuiltinMro a).map (·.contains (Value.ref C)) else none)) = _
  rw [if_neg (by intro z; cases (beq_iff_eq.mp z)), hi', ht, if_pos (by rfl)]
  simp only [List.mem_cons, List.not_mem_nil, or_false] at ha
  have mk : ∀ (a : String) (l : List String), fastBuiltinMro a = some (l.map Value.type) → (fastBuiltinMro a).map (·.contains (Value.ref C)) = some false := fun a l h => by
    rw [h, Option.map_some, key _ fun v hv => by obtain ⟨n, _, e⟩ := List.mem_map.mp hv; exact ⟨n, e.symm⟩]
  rcases ha with rfl | rfl | rfl | rfl | rfl | rfl | rfl
  · exact mk _ ["NoneType", "object"] (by decide +kernel)
  · exact mk _ ["bool", "int", "object"] (by decide +kernel)
  · exact mk _ ["int", "object"] (by decide +kernel)
  · exact mk _ ["str", "object"] (by decide +kernel)
  · exact mk _ ["tuple", "object"] (by decide +kernel)
  · exact mk _ ["list", "object"] (by decide +kernel)
  · exact mk _ ["dict", "object"] (by decide +kernel)
theorem de_isC {nm : Str} {p p2 : Pos} (c : IsD X.K X.mg nm) (hg : Gl X "isinstance") (hm : X.mg "isinstance" = none) (hg2 : Gl X nm) (he : DE X W e re) (hdb : (nm == ("__debug__" : Str)) = false := by decide)
    (hs : starEach [e, .Name nm p2] X.env = [(false, eval e X.env), (false, eval (.Name nm p2) X.env)] := by rfl) (hs2 : starEach [.Name nm p2] X.env = [(false, eval (.Name nm p2) X.env)] := by rfl) (hpl : (backTo pos (starEach [.Name nm p2] X.env)).any (·.1) = false := by rfl) :
    DE X W (.Call (.Name "isinstance" p) [e, .Name nm p2] [] pos) (rIsC nm re) := by
  obtain ⟨C, ci, em, cl, hc, hmro, ht, hi⟩ := c.ex
  refine PE.imp (pe_callB call_isi hg hm bt_isinstance (pa_cons he (pa_cons (pe_glob (v := .ref C) hg2 em rfl hdb) pa_nil hs2) hs) (by decide) (by decide) hs hpl) fun t H Q ⟨n, m, G, xd, q, hn, hs, hl, hr, hq⟩ => ⟨n, m, G, xd, _, hn, hs, hl, hr, fun d m1 v G1 H1 e1 s1 r1 ⟨b, eb, k⟩ => ?_⟩
  show ∃ (x c : V) (t u : Value) (b : Bool), [v, .ref C] = [x, c] ∧ ClsV c u ∧ TyX X.K H1 x t ∧ PySem.W.kitOne X.K t u = some b ∧ Q (.bl b) H1
  unfold isC at eb
  cases ei : insOf d m1 with
  | some p =>
    obtain ⟨nm', fs⟩ := p
    rw [ei] at eb
    simp only at eb
    split at eb
    · rename_i en
      cases eb
      subst en
      obtain ⟨p, C', dx, gs, rfl, ci', hp, rf⟩ := ins_at s1 r1 ei
      have := ci.eq ci'
      subst this
      exact ⟨_, _, .ref C, .ref C, true, rfl, .own C, .base (.ins hp cl hc (special_class X.K) (takes_class X.K) hmro), by unfold PySem.W.kitOne; rw [if_pos (by simp)], hq _ m1 _ G1 H1 e1 s1 (.bl true) k⟩
    · cases eb
  | none =>
    rw [ei] at eb
    simp only at eb
    cases et : tyD d m1 with
    | none => rw [et] at eb; cases eb
    | some a =>
      rw [et] at eb
      cases eb
      obtain ⟨h1, h2⟩ := tyD_ok s1 r1 et
      exact ⟨_, _, .type a, .ref C, false, rfl, .own C, h1, tyD_class X.K ht hi a h2, hq _ m1 _ G1 H1 e1 s1 (.bl false) k⟩
end
end DL

/-! DL18: sorted(text), xs[::-1], == of lists that may still change at any depth -/
namespace DL
open PySem PySem.Spec PySem.Calls PyProof.Rows L2
section
variable {prog : Program} {w : World} {A : Around} {E : Value → Shared → Prop} {s : Shared}
def signD (c : Nat) : PyData := .str ⟨#[c]⟩
theorem each_signs {x : Str} {acc : Array Value} (h : ItemsOf (SignAt x) acc x.cps.size) : PySem.W.EachIs (fun v c => ∃ t, v = .str ⟨#[c]⟩ t) acc.toList x.cps.toList := by
  have hv := vals_signs h
  have key : ∀ (cs : List Nat) (us : List Value), Vals (cs.map fun c => V.str ⟨#[c]⟩) us → PySem.W.EachIs (fun v c => ∃ t, v = .str ⟨#[c]⟩ t) us cs := by
    intro cs
    induction cs with
    | nil =>
      intro us h
      cases h
      exact .nil
    | cons c cs ih =>
      intro us h
      cases h with
      | cons r hs => exact .cons r (ih _ hs)
  exact key _ _ hv
theorem collect_text {x : Str} {t : Tok} {Q : List Value → Shared → Prop} (hh : A.handled = none) (hn : x.cps.size ≤ sizeLine)
    (hQ : ∀ h' tk acc, (∀ b o, s.heap.get? b = some o → h'.get? b = some o) → s.heap.objs.size < h'.objs.size → ItemsOf (SignAt x) acc x.cps.size → Q acc.toList { s with heap := h', toks := tk }) : wpAny (model prog w) A (collect (.str x t)) Q E s := by
  have hS : (s.heap.push { cls := .type "list", data := .seq ([] : List Value).toArray }).get? s.heap.objs.size = some { cls := .type "list", data := .seq #[] 0 } := Heap.get?_push_size _ rfl
  have key : ∀ R : Result → Shared → Prop, (∀ h' tk acc c, (∀ b o, b ≠ s.heap.objs.size → (s.heap.push { cls := .type "list", data := .seq ([] : List Value).toArray }).get? b = some o → h'.get? b = some o) → h'.get? s.heap.objs.size = some { cls := .type "list", dict := none, data := .seq acc c, slots := #[] } → ItemsOf (SignAt x) acc x.cps.size → R (.ok (.ret (.ref s.heap.objs.size))) { s with heap := h', toks := tk }) →
      codeAny (model prog w) A (.builtin "list.__iadd__" ⟨[.ref s.heap.objs.size, .str x t], []⟩) R { s with heap := s.heap.push { cls := .type "list", data := .seq ([] : List Value).toArray } } := fun R hR => by
    refine codeAny_builtin PySem.F.entry_list_iadd ?_
    rw [Around.under_plainId PySem.F.plain_list_iadd _]
    exact text_extend (R := R) (s := { s with heap := s.heap.push { cls := .type "list", data := .seq ([] : List Value).toArray } }) hh s.heap.objs.size (.ref s.heap.objs.size) 0 hS hR hn
  unfold collect
  refine wpAny_bind (wpAny_runValue (codeAny_builtin PySem.F.entry_proto_collect ?_))
  rw [Around.under_plainId PySem.F.plain_proto_collect _]
  show wpAny _ A.in1 (newList [] >>= fun l => again (Code.builtin "list.__iadd__" ⟨[l, Value.str x t], []⟩)) _ _ s
  refine wpAny_bind (wpAny_newObj_type (wpAny_pure ⟨plainId_quiet PySem.F.plain_list_iadd _, key _ fun h' tk acc c hk hA hacc => ?_⟩))
  exact wpAny_bind (wpAny_load hA (wpAny_pure (hQ h' tk acc (fun b o e => hk b o (Nat.ne_of_lt (Heap.lt_size e)) (Heap.get?_push_of_some _ e)) (Heap.lt_size hA) hacc)))
theorem sorted_text {x : Str} {t : Tok} {Q : Value → Shared → Prop} (hh : A.handled = none) (hn : x.cps.size ≤ sizeLine) (hu : A.units + 2 < cLine)
    (h : ∀ (h' : Heap) (tk : Nat) (n : Addr) (out : List Value) (e : Nat), (∀ b o, s.heap.get? b = some o → h'.get? b = some o) → s.heap.objs.size ≤ n → h'.get? n = some (seqObj "list" out.toArray e) → PySem.W.EachIs (fun v c => ∃ t, v = .str ⟨#[c]⟩ t) out (x.cps.toList.mergeSort (PySem.W.dataLe false signD)) → Q (.ref n) { s with heap := h', toks := tk }) :
    wpAny (model prog w) A (call (.builtin "sorted") [.str x t]) Q E s := by
  refine call_function_entry kind_sorted plain_sorted entry_sorted (args_sorted1 _) (show wpAny _ _ (Builtin.«sorted» _) _ _ _ from ?_)
  unfold Builtin.«sorted»
  refine wpAny_bind (m := checkCount "sorted" 1 1 _) (wpAny_pure (wpAny_bind (collect_text hh hn fun h1 tk acc hk hlt hacc => ?_)))
  have hz : acc.toList.length = x.cps.size := by
    rw [Array.length_toList]
    exact hacc.1
  refine wpAny_bind (wpAny_newList ?_ (by rw [hz]; exact hn))
  have hat : (h1.push (seqObj "list" acc.toList.toArray 0)).get? h1.objs.size = some (seqObj "list" acc.toList.toArray 0) := Heap.get?_push_size _ rfl
  refine wpAny_bind (wpAny_holding (wpAny_call_entry_kw slot_list_sort ⟨_, hat, rfl⟩ entry_list_sort ?body (PyProof.Rows.args_list_sort _)))
  case body =>
    show wpAny (model prog w) A.in1.in1 (Builtin.«list.sort» ⟨[.ref h1.objs.size], []⟩) _ _ _
    have ea := each_signs hacc
    have er : PySem.W.EachIs (fun v c => ∃ as, Reads (PySem.W.sortingHeap (h1.push (seqObj "list" acc.toList.toArray 0)) h1.objs.size acc.toList) v (signD c) as) acc.toList x.cps.toList := ea.mono fun v c ⟨t, e⟩ => by
      subst e
      exact ⟨_, .str _ _⟩
    have hal : PySem.W.AllAlike (x.cps.toList.map signD) := .of fun _ _ => rfl
    refine wpAny_mono (PySem.W.list_sort_vals (s := { s with toks := tk, heap := h1.push (seqObj "list" acc.toList.toArray 0) }) (κ := PySem.W.dataKind (PySem.W.sortingHeap (h1.push (seqObj "list" acc.toList.toArray 0)) h1.objs.size acc.toList) (x.cps.toList.map signD)) (P := fun f s' => f = .done (.ret .none) ∧ Q (.ref h1.objs.size) s') hat ?_ (by rw [hz]; exact hn) ⟨rfl, ?_⟩) (fun f s' hf => ?_) fun _ _ e => e
    · exact PySem.W.SortsAt.data (PySem.W.each_map (R := fun v d => ∃ as, Reads _ v d as) signD er) hal (.others fun _ => ⟨(by intro z; cases z), fun _ z => by cases z⟩) (PySem.W.bound_map fun b _ => by simpa [signD, PyData.depth, Around.in1] using hu)
    · obtain ⟨e, he⟩ := PyProof.Rows.sortedHeap_at (vs := acc.toList) (out := (PySem.W.sortVals (PySem.W.dataKind (PySem.W.sortingHeap (h1.push (seqObj "list" acc.toList.toArray 0)) h1.objs.size acc.toList) (x.cps.toList.map signD)) false acc.toList acc.toList).toArray) hat
      refine h (PyProof.Rows.sortedHeap (h1.push (seqObj "list" acc.toList.toArray 0)) h1.objs.size acc.toList (PySem.W.sortVals (PySem.W.dataKind (PySem.W.sortingHeap (h1.push (seqObj "list" acc.toList.toArray 0)) h1.objs.size acc.toList) (x.cps.toList.map signD)) false acc.toList acc.toList).toArray) tk h1.objs.size _ e (fun b o eb => ?_) ?_ he (PySem.W.sortVals_data false ea er hal)
      · have hb := hk b o eb
        rw [PyProof.Rows.sortedHeap_old (Nat.ne_of_lt (Heap.lt_size hb)) (Nat.lt_of_lt_of_le (Heap.lt_size hb) (by rw [size_push']; exact Nat.le_succ _))]
        exact Heap.get?_push_of_some _ hb
      · exact Nat.le_of_lt hlt
    · obtain ⟨rfl, hq⟩ := hf
      exact ⟨_, rfl, wpAny_pure ⟨_, rfl, hq⟩⟩
end
section
variable {X : Cx} {W : WX} {pos : Pos} {e : Expr} {re : RE}
theorem le_signs : PySem.W.dataLe false signD = fun a b => decide (a ≤ b) := by
  show PySem.W.dataLe false (fun c => PyData.str ⟨#[c]⟩) = _
  rw [PySem.W.dataLe_str]
  funext a b
  rw [decide_eq_decide]
  constructor
  · intro h
    exact Nat.le_of_not_lt fun z => h (List.Lex.rel z)
  · intro h z
    cases z with
    | rel z => exact Nat.lt_irrefl _ (Nat.lt_of_lt_of_le z h)
    | cons z => cases z
theorem cr_sortedText (hc : X.calm = true) (hu : X.A.units + 64 < cLine) : CallR X (.builtin "sorted") (fun xs H Q => ∃ z : Str, xs = [.str z] ∧ z.length ≤ sizeLine ∧ ∀ l, H l = none → Q (.ref l) (upd H l (.lst ((z.cps.toList.mergeSort fun a b => decide (a ≤ b)).map fun c => V.str ⟨#[c]⟩)))) := by
  intro pins s σ H xs us Q I r h
  obtain ⟨z, rfl, hz, q⟩ := h
  obtain ⟨u, rfl, t, rfl⟩ := vals1 r
  refine sorted_text (I.ok.hd hc) hz (by omega) fun h' tk n out c hk hn hS ho => ?_
  rw [le_signs] at ho
  have key : ∀ (us : List Value) (cs : List Nat), PySem.W.EachIs (fun v c => ∃ t, v = Value.str ⟨#[c]⟩ t) us cs → Vals (cs.map fun c => V.str ⟨#[c]⟩) us := by
    intro us
    induction us with
    | nil =>
      intro cs h
      cases h
      exact .nil
    | cons u us ih =>
      intro cs h
      cases h with
      | cons a b => exact .cons a (ih _ b)
  have new : ObjOk X.prog X.w (upd H n (.lst ((z.cps.toList.mergeSort fun a b => decide (a ≤ b)).map fun c => V.str ⟨#[c]⟩))) h' n (.lst ((z.cps.toList.mergeSort fun a b => decide (a ≤ b)).map fun c => V.str ⟨#[c]⟩)) := by
    refine ⟨?_, out, c, key _ _ ho, hS⟩
    rw [List.length_map, List.length_mergeSort]
    exact hz
  exact ⟨.ref n, _, I.laid hk hn new, rfl, q _ (I.hok.fresh hn)⟩
def gSortT : List D → Mem → QD → Prop
  | [.str a], m, q => a.length ≤ sizeLine ∧ q (.lst (chars (a.mergeSort fun a b => decide (a ≤ b)))) m
  | _, _, _ => False
theorem cd_sortT (hc : X.calm = true) (hu : X.A.units + 64 < cLine) : CallR X (.builtin "sorted") (lowC X.K gSortT) := crN (cr_sortedText hc hu) fun H G m ds vs q Q hr hs hg hq => by
  unfold gSortT at hg
  split at hg
  · rename_i a
    cases hr with
    | cons h r =>
      cases r
      cases h
      refine ⟨_, rfl, by rw [str_len]; exact hg.1, fun l hl => ?_⟩
      obtain ⟨s2, e2⟩ := hs.laid hl (.lst (((⟨a.toArray⟩ : Str).cps.toList.mergeSort fun a b => decide (a ≤ b)).map fun c => V.str ⟨#[c]⟩))
      exact hq _ m _ _ _ e2 s2 (.lst upd_same (by simpa using (Reps.chars (K := X.K) (a.mergeSort fun a b => decide (a ≤ b))))) hg.2
  · exact False.elim hg
/-! ### xs[::-1] -/
def rRev (r : RE) : RE := fun xd n m q => r xd n m fun d m1 => ∃ ds, lstOf d m1 = some ds ∧ q (.lst ds.reverse) m1
theorem Reps.rev {K : PySem.W.Frag} {G : Hp} : ∀ {ds : List D} {vs : List V}, Reps K G ds vs → Reps K G ds.reverse vs.reverse
  | _, _, .nil => .nil
  | _, _, .cons h r => by
    rw [List.reverse_cons, List.reverse_cons]
    exact (Reps.rev r).append (.cons h .nil)
theorem de_rev {k : Nat} {p1 p2 p3 : Pos} (h : DE X W e re) : DE X W (.Subscript e (.Slice none none (some (.UnaryOp .USub (.Constant (.int 1) k p1) p2)) p3) pos) (rRev re) := PE.imp (pe_revL h) fun t H Q ⟨n, m, G, xd, q, hn, hs, hl, hr, hq⟩ =>
  ⟨n, m, G, xd, _, hn, hs, hl, hr, fun d m1 v G1 H1 e1 s1 r1 ⟨ds, ed, k⟩ => by
    obtain ⟨p, vs, rfl, hp, ra⟩ := lst_at s1 r1 ed
    refine ⟨p, vs, rfl, SqL.of hp, fun l hl => ?_⟩
    obtain ⟨s2, e2⟩ := s1.laid hl (.lst vs.reverse)
    exact hq _ m1 _ _ _ (e1.trans e2) s2 (.lst upd_same ((ra.mono e2).rev)) k⟩
end
/-! ### what may still change, seen as it is now -/
mutual
inductive Vw (m : Mem) : D → D → Prop
  | sca {d : D} : sca d = true → Vw m d d
  | tup {ds es : List D} : Vws m ds es → Vw m (.tup ds) (.tup es)
  | lst {ds es : List D} : Vws m ds es → Vw m (.lst ds) (.lst es)
  | ref {p : Addr} {ds es : List D} : m p = some (.lst ds) → Vws m ds es → Vw m (.ref p) (.lst es)
inductive Vws (m : Mem) : List D → List D → Prop
  | nil : Vws m [] []
  | cons {d e : D} {ds es : List D} : Vw m d e → Vws m ds es → Vws m (d :: ds) (e :: es)
end
mutual
theorem Vw.rep {K : PySem.W.Frag} {G H : Hp} {m : Mem} (s : Sep K G m H) : ∀ {x y : D} {v : V}, Vw m x y → Rep K G x v → Rep K H y v
  | _, _, _, .sca h, r => r.mono s.sub
  | _, _, _, .tup h, r => by
    cases r with
    | tup e r => exact .tup (s.sub _ _ e) (Vws.rep s h r)
  | _, _, _, .lst h, r => by
    cases r with
    | lst e r => exact .lst (s.sub _ _ e) (Vws.rep s h r)
  | _, _, _, .ref e h, r => by
    cases r
    obtain ⟨vs, h1, r1⟩ := s.lst e
    exact .lst h1 (Vws.rep s h r1)
theorem Vws.rep {K : PySem.W.Frag} {G H : Hp} {m : Mem} (s : Sep K G m H) : ∀ {xs ys : List D} {vs : List V}, Vws m xs ys → Reps K G xs vs → Reps K H ys vs
  | _, _, _, .nil, r => by
    cases r
    exact .nil
  | _, _, _, .cons h t, r => by
    cases r with
    | cons h1 r1 => exact .cons (Vw.rep s h h1) (Vws.rep s t r1)
end
mutual
theorem fl_vw {m : Mem} : ∀ (n : Nat) (d : D), fl n d = true → Vw m d d
  | n, .non, _ => .sca rfl
  | n, .bl _, _ => .sca rfl
  | n, .int _, _ => .sca rfl
  | n, .str _, _ => .sca rfl
  | n, .tup ds, h => by
    cases n with
    | zero => simp [fl] at h
    | succ n => exact .tup (fls_vw n ds (by simpa [fl] using h))
  | n, .lst ds, h => by
    cases n with
    | zero => simp [fl] at h
    | succ n => exact .lst (fls_vw n ds (by simpa [fl] using h))
  | n, .ref _, h => by cases n <;> simp [fl] at h
  | n, .ty _, h => by cases n <;> simp [fl] at h
  | n, .scr _, h => by cases n <;> simp [fl] at h
  | n, .ins _ _, h => by cases n <;> simp [fl] at h
  | n, .exc _ _ _ _ _, h => by cases n <;> simp [fl] at h
  | n, .dct _ _, h => by cases n <;> simp [fl] at h
theorem fls_vw {m : Mem} : ∀ (n : Nat) (ds : List D), fls n ds = true → Vws m ds ds
  | n, [], _ => .nil
  | n, d :: ds, h => by
    have h : fl n d = true ∧ fls n ds = true := by simpa [fls] using h
    exact .cons (fl_vw n d h.1) (fls_vw n ds h.2)
end
section
variable {X : Cx} {W : WX} {pos : Pos}
def gEqV (f : Bool → Bool) : G2 := fun x y m q => ∃ x' y', Vw m x x' ∧ Vw m y y' ∧ fl 60 x' = true ∧ fl 60 y' = true ∧ q (.bl (f (eqD x' y'))) m
theorem odEqV (hu : X.A.units + 64 < cLine) : OpR X (compareOp .Eq) (low2 X.K (gEqV fun b => b)) := opN fun pins s σ H G m dx dy x y v u q Q I rx ry hx hy hs ⟨x', y', h1, h2, f1, f2, k⟩ hq =>
  op_eqD hu pins s σ H x y v u Q I rx ry ⟨_, _, (h1.rep hs hx).dp 60 f1, (h2.rep hs hy).dp 60 f2, fl_shaped f1 (by decide), fl_shaped f2 (by decide), hq.here hs (.bl _) k⟩
theorem odNeV (hu : X.A.units + 64 < cLine) : OpR X (compareOp .NotEq) (low2 X.K (gEqV fun b => !b)) := opN fun pins s σ H G m dx dy x y v u q Q I rx ry hx hy hs ⟨x', y', h1, h2, f1, f2, k⟩ hq =>
  op_neD hu pins s σ H x y v u Q I rx ry ⟨_, _, (h1.rep hs hx).dp 60 f1, (h2.rep hs hy).dp 60 f2, fl_shaped f1 (by decide), fl_shaped f2 (by decide), hq.here hs (.bl _) k⟩
end
end DL

/-! DL19: walks over lists that may still change, and stay so -/
namespace DL
open PySem PySem.Spec PyProof.Rows L2
section
variable {X : Cx} {W : WX} {pos : Pos} {e : Expr} {re : RE}
structure SrcK (K : PySem.W.Frag) (G : Hp) (J : It) (C : Mem → Prop) (ds : List D) : Prop where
  go : ∀ i H m G', Same G G' → Sep K G' m H → C m → i < ds.length → J.go i H
  yld : ∀ i x H H' m G', Same G G' → Sep K G' m H → C m → i < ds.length → J.yld i H x H' → ∃ G'' d, ds[i]? = some d ∧ Same G' G'' ∧ Sep K G'' m H' ∧ Rep K G'' d x
  stop : ∀ H m G', Same G G' → Sep K G' m H → C m → J.stop ds.length H
theorem Src.k {K : PySem.W.Frag} {G : Hp} {J : It} {ds : List D} (S : Src K G J ds) : SrcK K G J (fun _ => True) ds :=
  ⟨fun i H m G' e s _ h => S.go i H m G' e s h, fun i x H H' m G' e s _ h y => S.yld i x H H' m G' e s h y, fun H m G' e s _ => S.stop H m G' e s⟩
abbrev RIK := XD → Nv → Mem → (List D → (Mem → Prop) → Mem → Prop) → Prop
def lowIK (K : PySem.W.Frag) (W : WX) (r : RIK) : TI := fun t H R => ∃ (n : Nv) (m : Mem) (G : Hp) (xd : XD) (q : List D → (Mem → Prop) → Mem → Prop), RepN K G n t ∧ Sep K G m H ∧ LinkX K W G xd ∧ r xd n m q ∧
  ∀ ds C m' G' H' J, Same G G' → Sep K G' m' H' → SrcK K G' J C ds → q ds C m' → R J H'
abbrev DIK (X : Cx) (W : WX) (tg iter : Expr) (r : RIK) : Prop := PI X tg iter (lowIK X.K W r)
theorem src_live {K : PySem.W.Frag} {G : Hp} {a : Addr} {ds : List D} : SrcK K G (Itl K a) (fun m => m a = some (.lst ds)) ds where
  go := fun i H m G' e s c hi => by
    obtain ⟨vs, h1, r1⟩ := s.lst c
    obtain ⟨v, e1, _⟩ := r1.get (List.getElem?_eq_getElem hi)
    exact ⟨vs, v, SqL.of h1, e1⟩
  yld := fun i x H H' m G' e s c hi y => by
    obtain ⟨rfl, y⟩ := y
    obtain ⟨vs, h1, r1⟩ := s.lst c
    obtain ⟨d, e2, r2⟩ := r1.getV (y vs (SqL.of h1))
    exact ⟨G', d, e2, Same.refl _, s, r2⟩
  stop := fun H m G' e s c => by
    obtain ⟨vs, h1, r1⟩ := s.lst c
    exact ⟨vs, SqL.of h1, by rw [r1.length]; exact Nat.le_refl _⟩
/-- the items of what is walked; C: what must hold at each turn -/
def gAllK : D → Mem → (List D → (Mem → Prop) → Mem → Prop) → Prop
  | .lst ds, m1, q => q ds (fun _ => True) m1
  | .tup ds, m1, q => q ds (fun _ => True) m1
  | .str a, m1, q => q (chars a) (fun _ => True) m1
  | .ref p, m1, q => ∃ ds, m1 p = some (.lst ds) ∧ q ds (fun m => m p = some (.lst ds)) m1
  | _, _, _ => False
def rAllK (r : RE) : RIK := fun xd n m q => r xd n m fun d m1 => gAllK d m1 q
theorem di_keep {tg : Expr} (h : DE X W e re) : DIK X W tg e (rAllK re) := PI.imp (pi_any h) fun t H R ⟨n, m, G, xd, q, hn, hs, hl, hr, hq⟩ =>
  ⟨n, m, G, xd, _, hn, hs, hl, hr, fun d m1 v G1 H1 e1 s1 r1 k => by
    cases r1 with
    | lst e r => exact .inl ⟨_, rfl, ⟨_, SqL.of (s1.sub _ _ e)⟩, hq _ _ m1 G1 H1 _ e1 s1 (src_list e r).k k⟩
    | tup e r => exact .inr (.inl ⟨_, rfl, ⟨_, SqT.of (s1.sub _ _ e)⟩, hq _ _ m1 G1 H1 _ e1 s1 (src_tup e r).k k⟩)
    | str a => exact .inr (.inr ⟨_, rfl, hq _ _ m1 G1 H1 _ e1 s1 src_str.k k⟩)
    | ref p =>
      obtain ⟨ds, e, k⟩ := k
      obtain ⟨vs, h1, r1⟩ := s1.lst e
      exact .inl ⟨_, rfl, ⟨vs, SqL.of h1⟩, hq ds _ m1 G1 H1 _ e1 s1 src_live k⟩
    | _ => exact False.elim k⟩
/-! ### comprehensions -/
def compK (T : Tgt) (tt : RT) (te : RE) (n : Nv) (C : Mem → Prop) (P : Addr) (k : Mem → Prop) : List D → Mem → Prop
  | [], m => C m ∧ k m
  | x :: xs, m => C m ∧ setT T x n fun n2 => tt xd0 n2 m fun b m1 => if b = true then te xd0 n2 m1 fun d m2 => ∃ acc, m2 P = some (.lst acc) ∧ acc.length < sizeLine ∧ compK T tt te n C P k xs (mset m2 P (.lst (acc ++ [d]))) else compK T tt te n C P k xs m1
def rLcK (ri : RIK) (T : Tgt) (tt : RT) (te : RE) (vs : List Nat) : RE := fun xd n m q => ri xd n m fun ds C m1 => ∀ P, m1 P = none → compK T tt te (wipeN n vs) C P (fun m2 => ∃ acc, m2 P = some (.lst acc) ∧ q (.lst acc) (mdel m2 P)) ds (mset m1 P (.lst []))
def rLcKO (ri : RIK) (T : Tgt) (tt : RT) (te : RE) (vs : List Nat) : RE := fun xd n m q => ri xd n m fun ds C m1 => ∀ P, m1 P = none → compK T tt te (wipeN n vs) C P (fun m2 => q (.ref P) m2) ds (mset m1 P (.lst []))
theorem lc_lowK {ri : RIK} {T : Tgt} {tt : RT} {te : RE} {vs : List Nat} {kk : Addr → Mem → Prop} {Q : VK} {t : L2.St} {H : Hp} (hw : T.within vs = true) {n : Nv} {m : Mem} {G : Hp} {xd : XD} (hn : RepN X.K G n t) (hs : Sep X.K G m H) (hl : LinkX X.K W G xd)
    (hr : ri xd n m fun ds C m1 => ∀ P, m1 P = none → compK T tt te (wipeN n vs) C P (kk P) ds (mset m1 P (.lst [])))
    (hq : ∀ P m2 G2 H2, Same G G2 → Sep X.K G2 m2 H2 → kk P m2 → Q (.ref P) H2) :
    tLc (lowIK X.K W ri) (gT X.K T) (lowT X.K W0 tt) (lowE X.K W0 te) vs t H Q := by
  refine ⟨n, m, G, xd, _, hn, hs, hl, hr, fun ds C m1 G1 H1 J e1 s1 S k P hP => ?_⟩
  refine ⟨fun i z H => z = ds.length - i ∧ i ≤ ds.length ∧ ∃ m G', Same G1 G' ∧ Sep X.K G' m H ∧ compK T tt te (wipeN n vs) C P (kk P) (ds.drop i) m, ⟨ds.length, by simp, Nat.zero_le _, _, G1, Same.refl _, s1.alloc hP (.lst .nil), k P (s1.freeM hP)⟩, ?_⟩
  rintro i z H2 ⟨rfl, hi, m2, G2, e2, s2, k2⟩
  by_cases hlt : i < ds.length
  · rw [List.drop_eq_getElem_cons hlt, compK] at k2
    obtain ⟨c2, k2⟩ := k2
    refine .inr ⟨S.go i H2 m2 G2 e2 s2 c2 hlt, fun H' => ∃ m G', Same G1 G' ∧ Sep X.K G' m H' ∧ compK T tt te (wipeN n vs) C P (kk P) (ds.drop (i + 1)) m, fun H' h => ⟨ds.length - (i + 1), by omega, rfl, hlt, h⟩, fun x H' y => ?_⟩
    obtain ⟨G3, d, ed, e3, s3, r3⟩ := S.yld i x H2 H' m2 G2 e2 s2 c2 hlt y
    have ed' : ds[i] = d := by
      rw [List.getElem?_eq_getElem hlt] at ed
      exact Option.some.inj ed
    rw [ed'] at k2
    have e13 := e1.trans (e2.trans e3)
    refine setT_okW s3 r3 (wipe_rep (hn.mono e13) vs) k2 hw fun n' t' rn ew q => ⟨by rw [ew, wipe_wipe], ?_⟩
    refine ⟨n', m2, G3, xd0, _, rn, s3, link0, q, fun b m4 G4 H4 e4 s4 q4 => ?_⟩
    cases b with
    | true =>
      refine ⟨n', m4, G4, xd0, _, rn.mono e4, s4, link0, q4, fun d m5 v G5 H5 e5 s5 r5 ⟨acc, ma, hz, q5⟩ => ?_⟩
      obtain ⟨us, h1, r6⟩ := s5.lst ma
      exact ⟨us, h1, by rw [← r6.length]; exact hz, _, G5, e2.trans (e3.trans (e4.trans e5)), s5.write ma (.lst (r6.append (.cons r5 .nil))), q5⟩
    | false => exact ⟨m4, G4, e2.trans (e3.trans e4), s4, q4⟩
  · have e : i = ds.length := by omega
    subst e
    rw [List.drop_length, compK] at k2
    exact .inl ⟨S.stop H2 m2 G2 e2 s2 k2.1, hq P m2 G2 H2 (e1.trans e2) s2 k2.2⟩
section
variable {elt tg iter : Expr} {ifs : List Expr} {scope : Scope} {own : List (Str × Nat)} {ri : RIK} {T : Tgt} {tt : RT} {te : RE}
theorem de_lcK {vs : List Nat} (hc : X.calm = true) (hN : X.N.Nodup) (hi : DIK X W tg iter ri) (ok : BlkOk X.N X.env.scope scope own) (hv : own.map (·.2) = vs) (hw : T.within vs = true)
    (hg : ∀ (s : Shared) (H : Hp) (C : Addr) (cl : List (Str × Addr)) (fp : List Addr), PG (X.blk s H scope (compEnvC scope cl C X.env) fp) tg (gT X.K T)) (ht : ∀ (s : Shared) (H : Hp) (C : Addr) (cl : List (Str × Addr)) (fp : List Addr), DTs (X.blk s H scope (compEnvC scope cl C X.env) fp) W0 ifs tt)
    (he : ∀ (s : Shared) (H : Hp) (C : Addr) (cl : List (Str × Addr)) (fp : List Addr), DE (X.blk s H scope (compEnvC scope cl C X.env) fp) W0 elt te) (hs : ∀ x, foldedSetIterable iter X.env x = pure x := by intro _; rfl) :
    DE X W (.ListComp elt [⟨tg, iter, ifs, 0⟩] scope pos) (rLcK ri T tt te vs) := by
  subst hv
  exact PE.imp (pe_lc hc hN hi ok hg ht he hs) fun t H Q ⟨n, m, G, xd, q, hn, hs, hl, hr, hq⟩ =>
    lc_lowK hw hn hs hl hr (frz_end hq)
theorem de_lcKO {vs : List Nat} (hc : X.calm = true) (hN : X.N.Nodup) (hi : DIK X W tg iter ri) (ok : BlkOk X.N X.env.scope scope own) (hv : own.map (·.2) = vs) (hw : T.within vs = true)
    (hg : ∀ (s : Shared) (H : Hp) (C : Addr) (cl : List (Str × Addr)) (fp : List Addr), PG (X.blk s H scope (compEnvC scope cl C X.env) fp) tg (gT X.K T)) (ht : ∀ (s : Shared) (H : Hp) (C : Addr) (cl : List (Str × Addr)) (fp : List Addr), DTs (X.blk s H scope (compEnvC scope cl C X.env) fp) W0 ifs tt)
    (he : ∀ (s : Shared) (H : Hp) (C : Addr) (cl : List (Str × Addr)) (fp : List Addr), DE (X.blk s H scope (compEnvC scope cl C X.env) fp) W0 elt te) (hs : ∀ x, foldedSetIterable iter X.env x = pure x := by intro _; rfl) :
    DE X W (.ListComp elt [⟨tg, iter, ifs, 0⟩] scope pos) (rLcKO ri T tt te vs) := by
  subst hv
  exact PE.imp (pe_lc hc hN hi ok hg ht he hs) fun t H Q ⟨n, m, G, xd, q, hn, hs, hl, hr, hq⟩ =>
    lc_lowK hw hn hs hl hr (own_end hq)
end
/-! ### for -/
def forK (T : Tgt) (b : RS) (xd : XD) (C : Mem → Prop) : List D → EN → Nv → Mem → Prop
  | [], e, n, m => C m ∧ e.nx n m
  | x :: xs, e, n, m => C m ∧ setT T x n fun n1 => b xd ⟨forK T b xd C xs e, e.rt, e.nx, forK T b xd C xs e⟩ n1 m
def rForK (ri : RIK) (T : Tgt) (b : RS) : RS := fun xd e n m => ri xd n m fun ds C m1 => forK T b xd C ds e n m1
end
end DL

/-! DL20: how the newer readings run -/
namespace DL
open PySem PySem.Spec PyProof.Rows L2
theorem bt_sorted : bootBuiltins "sorted" = some (.builtin "sorted") := by decide +kernel
theorem bt_zip : bootBuiltins "zip" = some (.type "zip") := by decide +kernel
section
variable {m : Mem} {q : QD} {ds : List D} {a : List Nat} {p : Addr} {r : List D → (Mem → Prop) → Mem → Prop} {nm : Str} {fs : List (Str × D)}
theorem ew0 : gAllK (.lst ds) m r = r ds (fun _ => True) m := rfl
theorem ew1 : gAllK (.tup ds) m r = r ds (fun _ => True) m := rfl
theorem ew2 : gAllK (.str a) m r = r (chars a) (fun _ => True) m := rfl
theorem ew3 : gAllK (.ref p) m r = (∃ ds, m p = some (.lst ds) ∧ r ds (fun m => m p = some (.lst ds)) m) := rfl
theorem ew4 : gSortT [.str a] m q = (a.length ≤ sizeLine ∧ q (.lst (chars (a.mergeSort fun a b => decide (a ≤ b)))) m) := rfl
theorem ew5 : gFrzI (.ref p) m q = (∃ nm fs, m p = some (.ins nm fs) ∧ q (.ins nm (frzF fs (mdel m p)).1) (frzF fs (mdel m p)).2) := rfl
theorem ew6 : insOf (.ins nm fs) m = some (nm, fs) := rfl
end
theorem insOf_ref {m : Mem} {p : Addr} {nm : Str} {fs : List (Str × D)} (h : m p = some (.ins nm fs)) : insOf (.ref p) m = some (nm, fs) := by
  show (match m p with | some (.ins nm fs) => some (nm, fs) | _ => none) = _
  rw [h]
/-- a comprehension over a list that may change, whose turn is a function of the item -/
theorem comp_fnK {T : Tgt} {tt : RT} {te : RE} {n : Nv} {P : Addr} {C k : Mem → Prop} {m : Mem} (f : D → Option D) (hC : ∀ acc, C (mset m P (.lst acc))) : ∀ (xs acc : List D), acc.length + xs.length ≤ 16000000 →
    (∀ x ∈ xs, ∀ acc : List D, acc.length < sizeLine → ∀ kk : Mem → Prop, kk (mset m P (.lst (addO acc (f x)))) → turnD T tt te n P kk x (mset m P (.lst acc))) →
    k (mset m P (.lst (acc ++ xs.filterMap f))) → compK T tt te n C P k xs (mset m P (.lst acc))
  | [], acc, _, _, hk => by
    rw [compK]
    exact ⟨hC _, by simpa using hk⟩
  | x :: xs, acc, hl, hs, hk => by
    rw [compK]
    rw [List.length_cons] at hl
    have hsz : sizeLine = 16777216 := sizeLine_eq
    refine ⟨hC _, hs x List.mem_cons_self acc (by omega) _ ?_⟩
    have hl' : (addO acc (f x)).length + xs.length ≤ 16000000 := by
      cases f x <;> simp [addO] <;> omega
    refine comp_fnK f hC xs _ hl' (fun y hy => hs y (List.mem_cons_of_mem _ hy)) ?_
    cases e : f x with
    | none =>
      rw [List.filterMap_cons_none e] at hk
      exact hk
    | some d =>
      rw [List.filterMap_cons_some e] at hk
      simpa [addO] using hk
theorem comp_goK {T : Tgt} {tt : RT} {te : RE} {n : Nv} {m : Mem} {ds : List D} {C : Mem → Prop} {k : Addr → Mem → Prop} (f : D → Option D) (hl : ds.length ≤ 16000000) (hC : ∀ P, m P = none → ∀ acc, C (mset m P (.lst acc)))
    (hs : ∀ P, m P = none → ∀ x ∈ ds, ∀ acc : List D, acc.length < sizeLine → ∀ kk : Mem → Prop, kk (mset m P (.lst (addO acc (f x)))) → turnD T tt te n P kk x (mset m P (.lst acc)))
    (hk : ∀ P, m P = none → k P (mset m P (.lst (ds.filterMap f)))) : ∀ P, m P = none → compK T tt te n C P (k P) ds (mset m P (.lst [])) := fun P hP =>
  comp_fnK f (hC P hP) ds [] (by simpa using hl) (hs P hP) (by rw [List.nil_append]; exact hk P hP)
mutual
theorem Vw.sub {m m' : Mem} (h : ∀ p ds, m p = some (.lst ds) → m' p = some (.lst ds)) : ∀ {x y : D}, Vw m x y → Vw m' x y
  | _, _, .sca e => .sca e
  | _, _, .tup r => .tup (Vws.sub h r)
  | _, _, .lst r => .lst (Vws.sub h r)
  | _, _, .ref e r => .ref (h _ _ e) (Vws.sub h r)
theorem Vws.sub {m m' : Mem} (h : ∀ p ds, m p = some (.lst ds) → m' p = some (.lst ds)) : ∀ {xs ys : List D}, Vws m xs ys → Vws m' xs ys
  | _, _, .nil => .nil
  | _, _, .cons a r => .cons (Vw.sub h a) (Vws.sub h r)
end
end DL

/-! DL21: dicts whose keys are tuples of ints and tuples -/
namespace DL
open PySem PySem.Spec PyProof.Rows L2
mutual
theorem nk_hash (w w' : World) : ∀ {d : D} {k : NestedKey}, nkOf d = some k → k.hash w = k.hash w'
  | .int i, k, h => by
    cases h
    rfl
  | .tup ds, k, h => by
    have h : (nkAll ds).map NestedKey.tup = some k := by simpa [nkOf] using h
    obtain ⟨ks, e, rfl⟩ := Option.map_eq_some_iff.mp h
    rw [NestedKey.hash, NestedKey.hash, nk_hashes w w' e]
  | .non, k, h => by simp [nkOf] at h
  | .bl _, k, h => by simp [nkOf] at h
  | .str _, k, h => by simp [nkOf] at h
  | .ref _, k, h => by simp [nkOf] at h
  | .ty _, k, h => by simp [nkOf] at h
  | .lst _, k, h => by simp [nkOf] at h
  | .scr _, k, h => by simp [nkOf] at h
  | .ins _ _, k, h => by simp [nkOf] at h
  | .exc _ _ _ _ _, k, h => by simp [nkOf] at h
  | .dct _ _, k, h => by simp [nkOf] at h
theorem nk_hashes (w w' : World) : ∀ {ds : List D} {ks : List NestedKey}, nkAll ds = some ks → NestedKey.hashes w ks = NestedKey.hashes w' ks
  | [], ks, h => by
    cases h
    rfl
  | d :: ds, ks, h => by
    have h : ((nkOf d).bind fun k => (nkAll ds).map (k :: ·)) = some ks := by simpa [nkAll] using h
    obtain ⟨k, e1, h⟩ := Option.bind_eq_some_iff.mp h
    obtain ⟨ks', e2, rfl⟩ := Option.map_eq_some_iff.mp h
    rw [NestedKey.hashes, NestedKey.hashes, nk_hash w w' e1, nk_hashes w w' e2]
end
section
variable {X : Cx} {pins : List (Addr × Obj)} {σ : L2.St} {H : Hp} {s : Shared}
mutual
theorem nk_is (I : Inv X pins σ H s) : ∀ {d : D} {v : V} {u : Value} {k : NestedKey}, Rep X.K H d v → RelV v u → nkOf d = some k → NestedIs s.heap k u
  | _, _, _, _, .int i, r, h => by
    cases h
    obtain ⟨t, rfl⟩ := r
    exact .int i t
  | _, _, u, k, .tup (ds := ds) e rs, r, h => by
    have h : (nkAll ds).map NestedKey.tup = some k := by simpa [nkOf] using h
    obtain ⟨ks, e1, rfl⟩ := Option.map_eq_some_iff.mp h
    cases r
    obtain ⟨its, rv, ⟨o, e2, e3, n, e4⟩, _⟩ := I.tuple (SqT.of e)
    exact .tup e2 e3 e4 (nk_all I rs (by simpa using rv) e1)
  | _, _, _, _, .non, _, h => by simp [nkOf] at h
  | _, _, _, _, .bl _, _, h => by simp [nkOf] at h
  | _, _, _, _, .str _, _, h => by simp [nkOf] at h
  | _, _, _, _, .ref _, _, h => by simp [nkOf] at h
  | _, _, _, _, .ty _, _, h => by simp [nkOf] at h
  | _, _, _, _, .lst _ _, _, h => by simp [nkOf] at h
  | _, _, _, _, .scr _, _, h => by simp [nkOf] at h
  | _, _, _, _, .ins _ _ _, _, h => by simp [nkOf] at h
  | _, _, _, _, .exc _ _ _, _, h => by simp [nkOf] at h
  | _, _, _, _, .exc0 _, _, h => by simp [nkOf] at h
  | _, _, _, _, .dK _ _, _, h => by simp [nkOf] at h
  | _, _, _, _, .dT _ _ _ _ _, _, h => by simp [nkOf] at h
theorem nk_all (I : Inv X pins σ H s) : ∀ {ds : List D} {vs : List V} {us : List Value} {ks : List NestedKey}, Reps X.K H ds vs → Vals vs us → nkAll ds = some ks → NestedAll s.heap ks us
  | _, _, _, _, .nil, r, h => by
    cases h
    cases r
    exact .nil
  | _, _, us, ks, .cons (d := d) (ds := ds) a b, r, h => by
    have h : ((nkOf d).bind fun k => (nkAll ds).map (k :: ·)) = some ks := by simpa [nkAll] using h
    obtain ⟨k, e1, h⟩ := Option.bind_eq_some_iff.mp h
    obtain ⟨ks', e2, rfl⟩ := Option.map_eq_some_iff.mp h
    cases r with
    | cons r1 r2 => exact .cons (nk_is I a r1 e1) (nk_all I b r2 e2)
end
/-- the entries of the dict -/
def zipT (xs : List (NestedKey × Addr × V)) (us : List Value) : List (NestedKey × Addr × Value) := (xs.zip us).map fun z => (z.1.1, z.1.2.1, z.2)
theorem zipT_cons (x : NestedKey × Addr × V) (xs : List (NestedKey × Addr × V)) (u : Value) (us : List Value) : zipT (x :: xs) (u :: us) = (x.1, x.2.1, u) :: zipT xs us := rfl
theorem zipT_keys : ∀ {xs : List (NestedKey × Addr × V)} {us : List Value}, Vals (xs.map (·.2.2)) us → (zipT xs us).map (·.1) = xs.map (·.1)
  | [], _, r => by
    cases r
    rfl
  | x :: xs, _, r => by
    cases r with
    | cons a b => rw [zipT_cons, List.map_cons, List.map_cons, zipT_keys b]
theorem zipT_is (I : Inv X pins σ H s) : ∀ {kvs : List (D × D)} {xs : List (NestedKey × Addr × V)} {us : List Value}, RepT X.K H kvs xs → Vals (xs.map (·.2.2)) us → ∀ z ∈ zipT xs us, (nestedKind X.prog X.w).is s.heap z.1 z.2.1
  | _, _, _, .nil, r, z, hz => by
    cases r
    cases hz
  | _, _, _, .cons e hd ra rv t, r, z, hz => by
    cases r with
    | cons a b =>
      rw [zipT_cons] at hz
      rcases List.mem_cons.mp hz with rfl | hz
      · exact ⟨nk_is I ra rfl e, hd⟩
      · exact zipT_is I t b z hz
theorem zipT_entries (w w' : World) {P : Program} : ∀ {kvs : List (D × D)} {xs : List (NestedKey × Addr × V)} {us : List Value}, RepT X.K H kvs xs → Vals (xs.map (·.2.2)) us → (xs.zip us).map (fun z => (⟨z.1.1.hash w, .ref z.1.2.1, z.2⟩ : DictEntry)) = (zipT xs us).map (entryOfKey (nestedKind P w'))
  | _, _, _, .nil, r => by
    cases r
    rfl
  | _, _, _, .cons e hd ra rv t, r => by
    cases r with
    | cons a b =>
      rw [zipT_cons, List.map_cons, ← zipT_entries w w' t b, List.zip_cons_cons, List.map_cons]
      congr 1
      show (⟨_, _, _⟩ : DictEntry) = ⟨_, _, _⟩
      rw [nk_hash w w' e]
      rfl
theorem keyed_at (I : Inv X pins σ H s) {p : Addr} {kvs : List (D × D)} {xs : List (NestedKey × Addr × V)} (hp : H p = some (dNo p xs)) (r : RepT X.K H kvs xs) (nd : (xs.map (·.1)).Nodup) :
    ∃ us, Vals (xs.map (·.2.2)) us ∧ s.heap.DictOfH (nestedKind X.prog X.w) p (zipT xs us) := by
  obtain ⟨⟨w, o, es, ep, us, hv, ho, hx, hd, he⟩, _, _⟩ := I.hok p _ hp
  refine ⟨us, hv, o, es, ep, ho, hx, hd, ?_, zipT_is I r hv, ?_⟩
  · rw [he]
    exact zipT_entries w X.w r hv
  · rw [zipT_keys hv]
    exact nd
/-- the value at a key -/
def getT (kvs : List (D × D)) (k : NestedKey) : Option D := (kvs.find? fun p => decide (nkOf p.1 = some k)).map (·.2)
theorem getT_at {k : NestedKey} : ∀ {kvs : List (D × D)} {xs : List (NestedKey × Addr × V)} {us : List Value}, RepT X.K H kvs xs → Vals (xs.map (·.2.2)) us →
    (getT kvs k = none ∧ atKey (zipT xs us) k = none) ∨ ∃ e v a u, getT kvs k = some e ∧ atKey (zipT xs us) k = some (a, u) ∧ Rep X.K H e v ∧ RelV v u
  | _, _, _, .nil, r => by
    cases r
    exact .inl ⟨rfl, rfl⟩
  | _, _, _, .cons (d := d) (k := k') (a := ad) e hd ra rv t, r => by
    cases r with
    | cons a b =>
      rw [zipT_cons]
      by_cases h : k' = k
      · subst h
        refine .inr ⟨_, _, ad, _, ?_, ?_, rv, a⟩
        · unfold getT
          rw [List.find?_cons_of_pos (by simpa using e)]
          rfl
        · unfold atKey
          rw [List.find?_cons_of_pos (by simp)]
          rfl
      · rcases getT_at (k := k) t b with ⟨h1, h2⟩ | ⟨e2, v2, a2, u2, h1, h2, h3⟩
        · left
          constructor
          · unfold getT at h1 ⊢
            rw [List.find?_cons_of_neg (by simpa [e] using h)]
            exact h1
          · unfold atKey at h2 ⊢
            rw [List.find?_cons_of_neg (by simpa using h)]
            exact h2
        · refine .inr ⟨e2, v2, a2, u2, ?_, ?_, h3⟩
          · unfold getT at h1 ⊢
            rw [List.find?_cons_of_neg (by simpa [e] using h)]
            exact h1
          · unfold atKey at h2 ⊢
            rw [List.find?_cons_of_neg (by simpa using h)]
            exact h2
end
/-- a dict, to be looked at -/
def moDct : Option MO → Option (Bool × List (D × D))
  | some (.dct t kvs) => some (t, kvs)
  | _ => none
def dctOf : D → Mem → Option (Bool × List (D × D))
  | .dct t kvs, _ => some (t, kvs)
  | .ref p, m => moDct (m p)
  | _, _ => none
theorem dctT_at {K : PySem.W.Frag} {G H : Hp} {m : Mem} {x : D} {v : V} {kvs : List (D × D)} (s : Sep K G m H) (r : Rep K G x v) (h : dctOf x m = some (true, kvs)) :
    ∃ p xs, v = .ref p ∧ H p = some (dNo p xs) ∧ (p == sysModules) = false ∧ xs.length ≤ sizeLine ∧ (xs.map (·.1)).Nodup ∧ RepT K G kvs xs := by
  cases r with
  | dT e z l n r =>
    cases h
    exact ⟨_, _, rfl, s.sub _ _ e, z, l, n, r⟩
  | ref p =>
    have h : moDct (m p) = some (true, kvs) := h
    cases e : m p with
    | none => rw [e] at h; cases h
    | some o =>
      rw [e] at h
      cases o with
      | dct t kvs' =>
        cases h
        obtain ⟨u, e1, r1⟩ := s.own p _ e
        cases r1 with
        | dT z l n r => exact ⟨_, _, rfl, e1, z, l, n, r⟩
      | _ => cases h
  | dK e r => cases h
  | _ => cases h
theorem dctK_at {K : PySem.W.Frag} {G H : Hp} {m : Mem} {x : D} {v : V} {kvs : List (D × D)} (s : Sep K G m H) (r : Rep K G x v) (h : dctOf x m = some (false, kvs)) :
    ∃ p us, v = .ref p ∧ H p = some (.dK us) ∧ RepK K G kvs us := by
  cases r with
  | dK e r =>
    cases h
    exact ⟨_, _, rfl, s.sub _ _ e, r⟩
  | ref p =>
    have h : moDct (m p) = some (false, kvs) := h
    cases e : m p with
    | none => rw [e] at h; cases h
    | some o =>
      rw [e] at h
      cases o with
      | dct t kvs' =>
        cases h
        obtain ⟨u, e1, r1⟩ := s.own p _ e
        cases r1 with
        | dK r => exact ⟨_, _, rfl, e1, r⟩
      | _ => cases h
  | dT e z l n r => cases h
  | _ => cases h
section
variable {X : Cx} {W : WX} {pos : Pos}
/-- x in d -/
def gInT (f : Bool → Bool) : D → D → Mem → QD → Prop
  | .tup ds, y, m, q => ∃ kvs k, dctOf y m = some (true, kvs) ∧ nkOf (.tup ds) = some k ∧ k.depth ≤ 8 ∧ q (.bl (f (getT kvs k).isSome)) m
  | _, _, _, _ => False
theorem isSome_at {H : Hp} {K : PySem.W.Frag} {k : NestedKey} {kvs : List (D × D)} {xs : List (NestedKey × Addr × V)} {us : List Value} (X : Cx) (hK : X.K = K) (r : RepT K H kvs xs) (hv : Vals (xs.map (·.2.2)) us) : (atKey (zipT xs us) k).isSome = (getT kvs k).isSome := by
  subst hK
  rcases getT_at (k := k) r hv with ⟨h1, h2⟩ | ⟨_, _, _, _, h1, h2, _⟩
  · rw [h1, h2]; rfl
  · rw [h1, h2]; rfl
theorem od_inT (hu : X.A.units + 64 < cLine) : OpR X (compareOp .In) (low2 X.K (gInT fun b => b)) := opN fun pins s σ H G m dx dy x y v u q Q I rx ry hx hy hs hg hq => by
  cases dx with
  | tup ds =>
    obtain ⟨kvs, k, e, ek, hd, hk⟩ := hg
    obtain ⟨p, xs, rfl, hp, z, l, nd, rt⟩ := dctT_at hs hy e
    have rt' := rt.mono hs.sub
    obtain ⟨us, hv, hD⟩ := keyed_at I hp rt' nd
    cases ry
    cases hx with
    | tup e1 r1 =>
      cases rx
      have hk' : (nestedKind X.prog X.w).is s.heap k _ := ⟨nk_is I ((Rep.tup e1 r1).mono hs.sub) rfl ek, hd⟩
      refine wpAny_in_heap (show X.A.in1.units + 8 < cLine by simp only [Around.in1]; omega) hk' z hD ⟨.bl _, H, I.tok _, rfl, ?_⟩
      rw [isSome_at X rfl rt' hv]
      exact hq.here hs (.bl _) hk
  | _ => exact False.elim hg
theorem od_notInT (hu : X.A.units + 64 < cLine) : OpR X (compareOp .NotIn) (low2 X.K (gInT fun b => !b)) := opN fun pins s σ H G m dx dy x y v u q Q I rx ry hx hy hs hg hq => by
  cases dx with
  | tup ds =>
    obtain ⟨kvs, k, e, ek, hd, hk⟩ := hg
    obtain ⟨p, xs, rfl, hp, z, l, nd, rt⟩ := dctT_at hs hy e
    have rt' := rt.mono hs.sub
    obtain ⟨us, hv, hD⟩ := keyed_at I hp rt' nd
    cases ry
    cases hx with
    | tup e1 r1 =>
      cases rx
      have hk' : (nestedKind X.prog X.w).is s.heap k _ := ⟨nk_is I ((Rep.tup e1 r1).mono hs.sub) rfl ek, hd⟩
      refine notIn_keyed (show X.A.in1.units + 8 < cLine by simp only [Around.in1]; omega) hk' z ⟨_, hD, rfl⟩ ⟨.bl _, H, I.tok _, rfl, ?_⟩
      rw [valueAt_pairsH, Option.isSome_map, isSome_at X rfl rt' hv]
      exact hq.here hs (.bl _) hk
  | _ => exact False.elim hg
/-- d[x] -/
def gIxT : D → D → Mem → QD → Prop
  | x, .tup ds, m, q => ∃ kvs k e, dctOf x m = some (true, kvs) ∧ nkOf (.tup ds) = some k ∧ k.depth ≤ 8 ∧ getT kvs k = some e ∧ q e m
  | _, _, _, _ => False
theorem xd_ixT (hu : X.A.units + 64 < cLine) : IxR X (low2 X.K gIxT) := by
  intro value slice pins s σ H x y v u Q I rx ry ⟨dx, dy, m, G, q, hx, hy, hs, hg, hq⟩ hsub
  cases dy with
  | tup ds =>
    obtain ⟨kvs, k, e, ed, ek, hd, eg, hk⟩ := hg
    obtain ⟨p, xs, rfl, hp, z, l, nd, rt⟩ := dctT_at hs hx ed
    have rt' := rt.mono hs.sub
    obtain ⟨us, hv, hD⟩ := keyed_at I hp rt' nd
    cases rx
    cases hy with
    | tup e1 r1 =>
      cases ry
      have hk' : (nestedKind X.prog X.w).is s.heap k _ := ⟨nk_is I ((Rep.tup e1 r1).mono hs.sub) rfl ek, hd⟩
      rcases getT_at (X := X) (H := G) (k := k) rt hv with ⟨h1, _⟩ | ⟨e', v', a', u', h1, h2, h3, h4⟩
      · rw [eg] at h1
        cases h1
      · rw [eg] at h1
        cases h1
        exact tail_any hD.typeIs slot_dict_getitem.lookup (wpAny_getItem_heap (show X.A.in1.units + 8 < cLine by simp only [Around.in1]; omega) hk' hD h2 ⟨v', H, I.tok _, h4, hq.here hs h3 hk⟩) hsub
  | _ => exact False.elim hg
variable {a b : Expr} {ra rb : RE}
theorem de_ixT (hu : X.A.units + 64 < cLine) (ha : DE X W a ra) (hb : DE X W b rb) (hs : PlainIx b) : DE X W (.Subscript a b pos) (rOp gIxT ra rb) := PE.imp (pe_ix (xd_ixT hu) ha hb hs) lowOp
/-- d[x], x an int or a text -/
def getK (kvs : List (D × D)) (k : Key) : Option D := (kvs.find? fun p => decide (keyOf p.1 = some k)).map (·.2)
theorem getK_at {K : PySem.W.Frag} {G : Hp} {k : Key} : ∀ {kvs : List (D × D)} {us : List (Key × V)} {e : D}, RepK K G kvs us → getK kvs k = some e → ∃ v, valV us k = some v ∧ Rep K G e v
  | _, _, _, .nil, h => by cases h
  | _, _, e, .cons (d := d) (k := k') ek r t, h => by
    by_cases hk : k' = k
    · subst hk
      unfold getK at h
      rw [List.find?_cons_of_pos (by simpa using ek)] at h
      cases h
      exact ⟨_, valV_pos rfl, r⟩
    · unfold getK at h
      rw [List.find?_cons_of_neg (by simpa [ek] using hk)] at h
      obtain ⟨v, h1, h2⟩ := getK_at t h
      exact ⟨v, by rw [valV_neg hk]; exact h1, h2⟩
theorem key_kV {K : PySem.W.Frag} {G : Hp} {d : D} {v : V} {k : Key} (r : Rep K G d v) (h : keyOf d = some k) : v = kV k := by
  cases r <;> simp [keyOf] at h <;> subst h <;> rfl
def gIxK : G2 := fun x y m q => ∃ kvs k e, dctOf x m = some (false, kvs) ∧ keyOf y = some k ∧ getK kvs k = some e ∧ q e m
theorem xd_ixK (hu : X.A.units + 64 < cLine) : IxR X (low2 X.K gIxK) := by
  intro value slice pins s σ H x y v u Q I rx ry ⟨dx, dy, m, G, q, hx, hy, hs, ⟨kvs, k, e, ed, ek, eg, hk⟩, hq⟩ hsub
  obtain ⟨p, us, rfl, hp, rk⟩ := dctK_at hs hx ed
  obtain ⟨v', h1, h2⟩ := getK_at rk eg
  have ey := key_kV hy ek
  subst ey
  cases rx
  have g : DGet H p (kV k) (some v') := by
    rw [← h1]
    exact .k hp
  exact tail_any (dict_typeIs I g) slot_dict_getitem.lookup (d_getItem (by omega) I g ry fun w' s' I' rw' => ⟨v', H, I', rw', hq.here hs h2 hk⟩) hsub
theorem de_ixK (hu : X.A.units + 64 < cLine) (ha : DE X W a ra) (hb : DE X W b rb) (hs : PlainIx b) : DE X W (.Subscript a b pos) (rOp gIxK ra rb) := PE.imp (pe_ix (xd_ixK hu) ha hb hs) lowOp
/-! ### a new key stored -/
theorem dno_ok {P : Program} {w w' : World} {H : Hp} {h : Heap} {p : Addr} {xs : List (NestedKey × Addr × V)} {us : List Value} (hv : Vals (xs.map (·.2.2)) us) (hD : ∃ o es ep, h.get? p = some o ∧ o.ExactDict ∧ o.data = .dict es ep ∧ es.toList = (xs.zip us).map fun z => (⟨z.1.1.hash w', .ref z.1.2.1, z.2⟩ : DictEntry)) : ObjOk P w H h p (dNo p xs) := by
  obtain ⟨o, es, ep, ho, hx, hd, he⟩ := hD
  exact ⟨⟨w', o, es, ep, us, hv, ho, hx, hd, he⟩, ⟨o, ho⟩, fun h1 h2 ⟨w, o, es, ep, us, hv, ho, hx, hd, he⟩ k => ⟨w, o, es, ep, us, hv, k o ho, hx, hd, he⟩⟩
theorem zipT_snoc : ∀ {xs : List (NestedKey × Addr × V)} {us : List Value} {x : NestedKey × Addr × V} {u : Value}, Vals (xs.map (·.2.2)) us → zipT xs us ++ [(x.1, x.2.1, u)] = zipT (xs ++ [x]) (us ++ [u])
  | [], _, x, u, r => by
    cases r
    rfl
  | y :: xs, _, x, u, r => by
    cases r with
    | cons a b => rw [zipT_cons, List.cons_append, List.cons_append, List.cons_append, zipT_cons, zipT_snoc b]
theorem zip_entry (w : World) (P : Program) (xs : List (NestedKey × Addr × V)) (us : List Value) : (zipT xs us).map (entryOfKey (nestedKind P w)) = (xs.zip us).map fun z => (⟨z.1.1.hash w, .ref z.1.2.1, z.2⟩ : DictEntry) := by
  unfold zipT
  rw [List.map_map]
  rfl
theorem getT_none {K : PySem.W.Frag} {G : Hp} {k : NestedKey} : ∀ {kvs : List (D × D)} {xs : List (NestedKey × Addr × V)}, RepT K G kvs xs → getT kvs k = none → k ∉ xs.map (·.1)
  | _, _, .nil, _, h => by cases h
  | _, _, .cons (d := d) (k := k') e hd ra rv t, hn, h => by
    by_cases hk : k' = k
    · subst hk
      unfold getT at hn
      rw [List.find?_cons_of_pos (by simpa using e)] at hn
      cases hn
    · unfold getT at hn
      rw [List.find?_cons_of_neg (by simpa [e] using hk)] at hn
      rw [List.map_cons] at h
      rcases List.mem_cons.mp h with z | z
      · exact hk z.symm
      · exact getT_none t hn z
theorem RepT.snoc {K : PySem.W.Frag} {G : Hp} {d e : D} {k : NestedKey} {a : Addr} {v : V} (h1 : nkOf d = some k) (h2 : k.depth ≤ 8) (h3 : Rep K G d (.ref a)) (h4 : Rep K G e v) : ∀ {kvs : List (D × D)} {xs : List (NestedKey × Addr × V)}, RepT K G kvs xs → RepT K G (kvs ++ [(d, e)]) (xs ++ [(k, a, v)])
  | _, _, .nil => .cons h1 h2 h3 h4 .nil
  | _, _, .cons a b c d t => .cons a b c d (RepT.snoc h1 h2 h3 h4 t)
theorem RepT.length {K : PySem.W.Frag} {G : Hp} : ∀ {kvs : List (D × D)} {xs : List (NestedKey × Addr × V)}, RepT K G kvs xs → kvs.length = xs.length
  | _, _, .nil => rfl
  | _, _, .cons _ _ _ _ t => by rw [List.length_cons, List.length_cons, RepT.length t]
/-- d[k] = v where k isn't there yet, by values -/
def rPutT (K : PySem.W.Frag) : TSet := fun o i v H Q => ∃ p a ds xs kvs k, o = .ref p ∧ i = .ref a ∧ H p = some (dNo p xs) ∧ RepT K H kvs xs ∧ (xs.map (·.1)).Nodup ∧ xs.length < sizeLine ∧ nkOf (.tup ds) = some k ∧ k.depth ≤ 8 ∧ Rep K H (.tup ds) (.ref a) ∧ getT kvs k = none ∧ Q (upd H p (dNo p (xs ++ [(k, a, v)])))
theorem set_T (hu : X.A.units + 64 < cLine) : PSet X (rPutT X.K) := by
  intro pins s σ H o i v ov iv u Q I ro ri rv h
  obtain ⟨p, a, ds, xs, kvs, k, rfl, rfl, hp, rt, nd, hz, ek, hd, ra, hn, q⟩ := h
  cases ro
  cases ri
  obtain ⟨us, hv, hD⟩ := keyed_at I hp rt nd
  have hk' : (nestedKind X.prog X.w).is s.heap k a := ⟨nk_is I ra rfl ek, hd⟩
  have hno : atKey (zipT xs us) k = none := by
    rcases getT_at (k := k) rt hv with ⟨_, h2⟩ | ⟨_, _, _, _, h1, _⟩
    · exact h2
    · rw [hn] at h1
      cases h1
  have hl : (zipT xs us).length ≤ sizeLine := by
    unfold zipT
    rw [List.length_map, List.length_zip]
    omega
  refine wpAny_setItem_heap (hsz := hl) (show X.A.in1.units + 8 < cLine by simp only [Around.in1]; omega) hk' hD fun h' hD' hsb => ?_
  rw [storedH_new hno, zipT_snoc (x := (k, a, v)) hv] at hD'
  obtain ⟨o', es, ep, ho, hx, hdt, he, _, _⟩ := hD'
  have hv' : Vals ((xs ++ [(k, a, v)]).map (·.2.2)) (us ++ [u]) := by
    rw [List.map_append]
    exact hv.append (.cons rv .nil)
  rw [zip_entry] at he
  refine ⟨_, I.write (x := p) (e := p) (o := dNo p (xs ++ [(k, a, v)])) (by rw [hp]; exact True.intro) (.inl rfl) (fun b ob hb eb => (hsb.2 b hb).trans eb) ⟨o', ho⟩ (dno_ok hv' ⟨o', es, ep, ho, hx, hdt, he⟩), q⟩
end
end DL

/-! DL22: dicts: made, stored into, told their length, comprehensions -/
namespace DL
open PySem PySem.Spec PyProof.Rows L2
section
variable {X : Cx} {W : WX} {pos : Pos} {e : Expr} {re : RE}
/-- d[k] = v, a new key -/
def rSetT (ro ri rv : RE) : RS := fun xd e n m => rv xd n m fun v m1 => ro xd n m1 fun o m2 => ri xd n m2 fun i m3 => ∃ p kvs ds k, o = .ref p ∧ i = .tup ds ∧ m3 p = some (.dct true kvs) ∧ nkOf i = some k ∧ k.depth ≤ 8 ∧ getT kvs k = none ∧ kvs.length < sizeLine ∧ e.nx n (mset m3 p (.dct true (kvs ++ [(i, v)])))
theorem ds_setT (hu : X.A.units + 64 < cLine) {o i : Expr} {ro ri : RE} {pos' : Pos} (ho : DE X W o ro) (hi : DE X W i ri) (he : DE X W e re) (ha : ∀ v, assign (.Subscript o i pos') X.env v = (do
      let ov ← holding [v] (eval o X.env)
      let iv ← holding [v, ov] (eval i X.env)
      standAt pos'
      holding [v, ov, iv] (setItem ov iv v)
      release [v, ov, iv] []) := by intro _; rfl) (hs : swapsWithSole [.Subscript o i pos'] e pos.line X.env = pure false := by rfl) (hw : swappedStores [.Subscript o i pos'] e X.env = pure none := by rfl)
    (h1 : (assignEach [.Subscript o i pos'] X.env).map (·.2) = [assign (.Subscript o i pos') X.env] := by rfl) : DS X W (.Assign [.Subscript o i pos'] e pos) (rSetT ro ri re) :=
  PS.imp (ps_asg he (pg_sub ho hi (set_T hu) ha) hs hw h1) fun D t H ⟨n, m, G, xd, e, hn, hs, hl, hr, L⟩ =>
    ⟨n, m, G, xd, _, hn, hs, hl, hr, fun d m1 v G1 H1 e1 s1 r1 k => ⟨n, m1, G1, xd, _, hn.mono e1, s1, hl.mono e1, k, fun d2 m2 v2 G2 H2 e2 s2 r2 k2 =>
      ⟨n, m2, G2, xd, _, hn.mono (e1.trans e2), s2, hl.mono (e1.trans e2), k2, fun d3 m3 v3 G3 H3 e3 s3 r3 ⟨p, kvs, ds, ky, eo, ei, mp, ek, hd, hn2, hz, k3⟩ => by
        subst eo ei
        cases r2
        obtain ⟨u, h1, r4⟩ := s3.own p _ mp
        cases r4 with
        | dT z l nd rt =>
          cases r3 with
          | tup ea ra =>
            rename_i a vs
            refine ⟨p, a, ds, _, kvs, ky, rfl, rfl, h1, rt.mono s3.sub, nd, by rw [← rt.length]; exact hz, ek, hd, (Rep.tup ea ra).mono s3.sub, hn2, ?_⟩
            refine L.nx n _ t G3 _ (e1.trans (e2.trans e3)) (s3.write mp (.dT z ?_ ?_ (rt.snoc ek hd (.tup ea ra) (r1.mono (e2.trans e3))))) (hn.mono (e1.trans (e2.trans e3))) k3
            · rw [List.length_append, ← rt.length]
              exact hz
            · rw [List.map_append, List.nodup_append]
              refine ⟨nd, by simp, fun a ha b hb => ?_⟩
              have hb : b = ky := by simpa using hb
              subst hb
              exact fun z => getT_none rt hn2 (z ▸ ha)⟩⟩⟩
/-- {} -/
def rDct0T : RE := fun _ _ m q => ∀ p, m p = none → q (.ref p) (mset m p (.dct true []))
theorem de_dct0T : DE X W (.Dict [] [] pos) rDct0T := by
  refine ⟨fun pins s σ H Q I ⟨n, m, G, xd, q, hn, hs, hl, hr, hq⟩ => ?_⟩
  have hp : H s.heap.objs.size = none := I.hok.fresh (Nat.le_refl _)
  have ok : ∀ H', ObjOk X.prog X.w H' (s.heap.push { cls := .type "dict", data := .dict #[] }) s.heap.objs.size (dNo s.heap.objs.size []) := fun H' => dno_ok (w' := X.w) (us := []) .nil ⟨_, #[], 0, Heap.get?_push_size _ rfl, ⟨rfl, rfl, rfl⟩, rfl, rfl⟩
  refine wpAny_Dict_empty ⟨.ref s.heap.objs.size, _, I.laid (a := s.heap.objs.size) (o := dNo s.heap.objs.size []) (t' := s.toks) (fun _ _ q => Heap.get?_push_of_some _ q) (Nat.le_refl _) (ok _), rfl, ?_⟩
  exact hq _ _ _ G _ (Same.refl G) (hs.alloc hp (.dT (beq_eq_false_iff_ne.mpr (Ne.symm (Nat.ne_of_lt I.big))) (Nat.zero_le _) List.nodup_nil .nil)) (.ref _) (hr _ (hs.freeM hp))
/-- len(d) -/
def gLenD : List D → Mem → QD → Prop
  | [x], m, q => ∃ t kvs, dctOf x m = some (t, kvs) ∧ q (.int kvs.length) m
  | _, _, _ => False
theorem call_len_no : CallR X (.builtin "len") (fun vs H Q => ∃ (p : Addr) (xs : List (NestedKey × Addr × V)) (kvs : List (D × D)), vs = [.ref p] ∧ H p = some (dNo p xs) ∧ (p == sysModules) = false ∧ xs.length ≤ sizeLine ∧ (xs.map (·.1)).Nodup ∧ RepT X.K H kvs xs ∧ Q (.int ((kvs.length : Nat) : Int)) H) := by
  intro pins s σ H xs us Q I r h
  obtain ⟨p, xs, kvs, rfl, hp, z, hl, nd, rt, q⟩ := h
  obtain ⟨u, rfl, rx⟩ := vals1 r
  obtain rfl : u = .ref p := rx
  obtain ⟨ws, hv, hD⟩ := keyed_at I hp rt nd
  have el : (zipT xs ws).length = kvs.length := by
    unfold zipT
    rw [List.length_map, List.length_zip, ← hv.length, List.length_map, rt.length]
    omega
  have hz : sizeLine = 16777216 := sizeLine_eq
  refine call_len_dictH z hD (by rw [el, rt.length]; omega) ⟨.int _, H, I.tok _, ⟨_, rfl⟩, ?_⟩
  rw [el]
  exact q
theorem call_len_dk : CallR X (.builtin "len") (fun vs H Q => ∃ (p : Addr) (us : List (Key × V)), vs = [.ref p] ∧ H p = some (.dK us) ∧ Q (.int ((us.length : Nat) : Int)) H) := by
  intro pins s σ H xs us Q I r h
  obtain ⟨p, kvs, rfl, hp, q⟩ := h
  obtain ⟨u, rfl, rx⟩ := vals1 r
  obtain rfl : u = .ref p := rx
  exact d_len I (.inl hp) fun t s' I' => ⟨.int _, H, I', ⟨_, rfl⟩, q⟩
theorem cd_lenD : CallR X (.builtin "len") (lowC X.K gLenD) := crN (CallR.or call_len_no call_len_dk) fun H G m ds vs q Q hr hs hg hq => by
  unfold gLenD at hg
  split at hg
  · obtain ⟨t, kvs, e, k⟩ := hg
    cases hr with
    | cons h r =>
      cases r
      cases t with
      | true =>
        obtain ⟨p, xs, rfl, hp, z, l, nd, rt⟩ := dctT_at hs h e
        exact .inl ⟨p, xs, kvs, rfl, hp, z, l, nd, rt.mono hs.sub, hq.here hs (.int _) k⟩
      | false =>
        obtain ⟨p, us, rfl, hp, rk⟩ := dctK_at hs h e
        exact .inr ⟨p, us, rfl, hp, by rw [← repK_len rk]; exact hq.here hs (.int _) k⟩
  · exact False.elim hg
/-! ### {k: v for ..} -/
theorem getK_none {K : PySem.W.Frag} {G : Hp} {k : Key} : ∀ {kvs : List (D × D)} {us : List (Key × V)}, RepK K G kvs us → getK kvs k = none → valV us k = none
  | _, _, .nil, _ => rfl
  | _, _, .cons (d := d) (k := k') ek r t, h => by
    by_cases hk : k' = k
    · subst hk
      unfold getK at h
      rw [List.find?_cons_of_pos (by simpa using ek)] at h
      cases h
    · unfold getK at h
      rw [List.find?_cons_of_neg (by simpa [ek] using hk)] at h
      rw [valV_neg hk]
      exact getK_none t h
theorem RepK.snoc {K : PySem.W.Frag} {G : Hp} {d e : D} {k : Key} {v : V} (h1 : keyOf d = some k) (h4 : Rep K G e v) : ∀ {kvs : List (D × D)} {us : List (Key × V)}, RepK K G kvs us → RepK K G (kvs ++ [(d, e)]) (us ++ [(k, v)])
  | _, _, .nil => .cons h1 h4 .nil
  | _, _, .cons a b t => .cons a b (RepK.snoc h1 h4 t)
def dcD (T : Tgt) (tt : RT) (tk tv : RE) (n : Nv) (P : Addr) (k : Mem → Prop) : List D → Mem → Prop
  | [], m => k m
  | x :: xs, m => setT T x n fun n2 => tt xd0 n2 m fun b m1 => if b = true then tk xd0 n2 m1 fun y m2 => tv xd0 n2 m2 fun z m3 => ∃ acc ky, m3 P = some (.dct false acc) ∧ keyOf y = some ky ∧ getK acc ky = none ∧ acc.length < sizeLine ∧ dcD T tt tk tv n P k xs (mset m3 P (.dct false (acc ++ [(y, z)]))) else dcD T tt tk tv n P k xs m1
/-- .. it won't change -/
def rDc (ri : RI) (T : Tgt) (tt : RT) (tk tv : RE) (vs : List Nat) : RE := fun xd n m q => ri xd n m fun ds m1 => ∀ P, m1 P = none → dcD T tt tk tv (wipeN n vs) P (fun m2 => ∃ acc, m2 P = some (.dct false acc) ∧ q (.dct false acc) (mdel m2 P)) ds (mset m1 P (.dct false []))
theorem dc_low {ri : RI} {T : Tgt} {tt : RT} {tk tv : RE} {vs : List Nat} {kk : Addr → Mem → Prop} {Q : VK} {t : L2.St} {H : Hp} (hw : T.within vs = true) {n : Nv} {m : Mem} {G : Hp} {xd : XD} (hn : RepN X.K G n t) (hs : Sep X.K G m H) (hl : LinkX X.K W G xd)
    (hr : ri xd n m fun ds m1 => ∀ P, m1 P = none → dcD T tt tk tv (wipeN n vs) P (kk P) ds (mset m1 P (.dct false [])))
    (hq : ∀ P m2 G2 H2, Same G G2 → Sep X.K G2 m2 H2 → kk P m2 → Q (.ref P) H2) :
    tDc (lowI X.K W ri) (gT X.K T) (lowT X.K W0 tt) (lowE X.K W0 tk) (lowE X.K W0 tv) vs t H Q := by
  refine ⟨n, m, G, xd, _, hn, hs, hl, hr, fun ds m1 G1 H1 J e1 s1 S k P hP => ?_⟩
  refine ⟨fun i z H => z = ds.length - i ∧ i ≤ ds.length ∧ ∃ m G', Same G1 G' ∧ Sep X.K G' m H ∧ dcD T tt tk tv (wipeN n vs) P (kk P) (ds.drop i) m, ⟨ds.length, by simp, Nat.zero_le _, _, G1, Same.refl _, s1.alloc hP (.dK .nil), k P (s1.freeM hP)⟩, ?_⟩
  rintro i z H2 ⟨rfl, hi, m2, G2, e2, s2, k2⟩
  by_cases hlt : i < ds.length
  · refine .inr ⟨S.go i H2 m2 G2 e2 s2 hlt, fun H' => ∃ m G', Same G1 G' ∧ Sep X.K G' m H' ∧ dcD T tt tk tv (wipeN n vs) P (kk P) (ds.drop (i + 1)) m, fun H' h => ⟨ds.length - (i + 1), by omega, rfl, hlt, h⟩, fun x H' y => ?_⟩
    obtain ⟨G3, d, ed, e3, s3, r3⟩ := S.yld i x H2 H' m2 G2 e2 s2 hlt y
    rw [List.drop_eq_getElem_cons hlt] at k2
    have ed' : ds[i] = d := by
      rw [List.getElem?_eq_getElem hlt] at ed
      exact Option.some.inj ed
    rw [ed', dcD] at k2
    have e13 := e1.trans (e2.trans e3)
    refine setT_okW s3 r3 (wipe_rep (hn.mono e13) vs) k2 hw fun n' t' rn ew q => ⟨by rw [ew, wipe_wipe], ?_⟩
    refine ⟨n', m2, G3, xd0, _, rn, s3, link0, q, fun b m4 G4 H4 e4 s4 q4 => ?_⟩
    cases b with
    | true =>
      refine ⟨n', m4, G4, xd0, _, rn.mono e4, s4, link0, q4, fun dy m5 v G5 H5 e5 s5 r5 q5 => ?_⟩
      refine ⟨n', m5, G5, xd0, _, rn.mono (e4.trans e5), s5, link0, q5, fun dz m6 v6 G6 H6 e6 s6 r6 ⟨acc, ky, ma, ek, hno, hz, q6⟩ => ?_⟩
      obtain ⟨u, h1, ro⟩ := s6.own P _ ma
      cases ro with
      | dK rk =>
        refine ⟨_, ky, key_kV r5 ek, h1, by rw [← repK_len rk]; exact hz, ?_⟩
        rw [putK_new _ (getK_none rk hno)]
        exact ⟨_, G6, e2.trans (e3.trans (e4.trans (e5.trans e6))), s6.write ma (.dK (rk.snoc ek r6)), q6⟩
    | false => exact ⟨m4, G4, e2.trans (e3.trans e4), s4, q4⟩
  · have e : i = ds.length := by omega
    subst e
    refine .inl ⟨S.stop H2 m2 G2 e2 s2, ?_⟩
    rw [List.drop_length, dcD] at k2
    exact hq P m2 G2 H2 (e1.trans e2) s2 k2
theorem frz_endD {K : PySem.W.Frag} {G : Hp} {q : QD} {Q : VK} (hq : ∀ d m' v G' H', Same G G' → Sep K G' m' H' → Rep K G' d v → q d m' → Q v H') : ∀ P m2 G2 H2, Same G G2 → Sep K G2 m2 H2 → (∃ acc, m2 P = some (.dct false acc) ∧ q (.dct false acc) (mdel m2 P)) → Q (.ref P) H2 := fun P m2 G2 H2 e2 s2 ⟨acc, ma, k⟩ => by
  obtain ⟨u, h1, ro⟩ := s2.own P _ ma
  cases ro with
  | dK rk =>
    obtain ⟨s3, e3⟩ := s2.freeze ma h1
    exact hq _ _ _ _ H2 (e2.trans e3) s3 (.dK upd_same (rk.mono e3)) k
theorem de_dc {kx vx tg iter : Expr} {ifs : List Expr} {scope : Scope} {own : List (Str × Nat)} {ri : RI} {T : Tgt} {tt : RT} {tk tv : RE} {vs : List Nat} (hc : X.calm = true) (hN : X.N.Nodup) (hi : DI X W tg iter ri) (ok : BlkOk X.N X.env.scope scope own) (hv : own.map (·.2) = vs) (hw : T.within vs = true)
    (hg : ∀ (s : Shared) (H : Hp) (C : Addr) (cl : List (Str × Addr)) (fp : List Addr), PG (X.blk s H scope (compEnvC scope cl C X.env) fp) tg (gT X.K T)) (ht : ∀ (s : Shared) (H : Hp) (C : Addr) (cl : List (Str × Addr)) (fp : List Addr), DTs (X.blk s H scope (compEnvC scope cl C X.env) fp) W0 ifs tt)
    (hk : ∀ (s : Shared) (H : Hp) (C : Addr) (cl : List (Str × Addr)) (fp : List Addr), DE (X.blk s H scope (compEnvC scope cl C X.env) fp) W0 kx tk) (he : ∀ (s : Shared) (H : Hp) (C : Addr) (cl : List (Str × Addr)) (fp : List Addr), DE (X.blk s H scope (compEnvC scope cl C X.env) fp) W0 vx tv) (hs : ∀ x, foldedSetIterable iter X.env x = pure x := by intro _; rfl) :
    DE X W (.DictComp kx vx [⟨tg, iter, ifs, 0⟩] scope pos) (rDc ri T tt tk tv vs) := by
  subst hv
  exact PE.imp (pe_dc hc hN hi ok hg ht hk he hs) fun t H Q ⟨n, m, G, xd, q, hn, hs, hl, hr, hq⟩ => dc_low hw hn hs hl hr (frz_endD hq)
end
end DL

/-! DL23: max(list), sorted(list) -/
namespace DL
open PySem PySem.Spec PyProof.Rows L2
section
variable {X : Cx} {W : WX} {pos : Pos} {e : Expr} {re : RE}
/-- max(xs) of a list of ints -/
def intsD (ds : List D) : Option (List Int) := ds.mapM fun d => match d with
  | .int i => some i
  | _ => none
theorem ints_rep {K : PySem.W.Frag} {G : Hp} : ∀ {ds : List D} {vs : List V} {ns : List Int}, Reps K G ds vs → ds = ns.map D.int → vs = ns.map V.int
  | _, _, [], .nil, _ => rfl
  | _, _, n :: ns, .cons h r, e => by
    rw [List.map_cons] at e
    injection e with e1 e2
    subst e1
    cases h
    rw [ints_rep r e2]
    rfl
  | _, _, n :: ns, .nil, e => by cases e
  | _, _, [], .cons _ _, e => by cases e
def gMaxL : List D → Mem → QD → Prop
  | [x], m, q => ∃ ns : List Int, lstOf x m = some (ns.map D.int) ∧ 0 < ns.length ∧ ∀ k, k ∈ ns → (∀ y, y ∈ ns → y ≤ k) → q (.int k) m
  | _, _, _ => False
theorem cd_maxL (hc : X.calm = true) : CallR X (.builtin "max") (lowC X.K gMaxL) := crN (cr_max hc) fun H G m ds vs q Q hr hs hg hq => by
  unfold gMaxL at hg
  split at hg
  · obtain ⟨ns, e, h0, k⟩ := hg
    cases hr with
    | cons h r =>
      cases r
      obtain ⟨p, vs, rfl, hp, ra⟩ := lst_at hs h e
      have ev := ints_rep ra rfl
      subst ev
      exact ⟨p, ns, rfl, SqL.of hp, h0, fun n h1 h2 => hq.here hs (.int _) (k n h1 h2)⟩
  · exact False.elim hg
/-! ### sorted(xs), xs alike -/
mutual
theorem rep_reads {pins : List (Addr × Obj)} {σ : L2.St} {H : Hp} {s : Shared} (I : Inv X pins σ H s) : ∀ {d : D} {x : V} {u : Value} {n : Nat}, Rep X.K H d x → RelV x u → fl n d = true → ∃ as, Reads s.heap u (toP d) as
  | _, _, _, _, .non, r, h => by
    cases r
    exact ⟨_, .none⟩
  | _, _, _, _, .bl b, r, h => by
    cases r
    exact ⟨_, .bool b⟩
  | _, _, _, _, .int i, r, h => by
    obtain ⟨t, rfl⟩ := r
    exact ⟨_, .int i t⟩
  | _, _, _, _, .str cs, r, h => by
    obtain ⟨t, rfl⟩ := r
    exact ⟨_, .str _ t⟩
  | _, _, _, n, .tup e rs, r, h => by
    cases r
    obtain ⟨its, rv, ⟨o, e2, e3, k, e4⟩, _⟩ := I.tuple (SqT.of e)
    cases n with
    | zero => simp [fl] at h
    | succ n =>
      obtain ⟨as, ra⟩ := reps_reads I rs (by simpa using rv) (by simpa [fl] using h)
      exact ⟨as, .tuple e2 e3 e4 ra⟩
  | _, _, _, n, .lst e rs, r, h => by
    cases r
    obtain ⟨its, rv, hl, _⟩ := I.list (SqL.of e)
    obtain ⟨o, e2, e3, k, e4⟩ := hl.isList
    cases n with
    | zero => simp [fl] at h
    | succ n =>
      obtain ⟨as, ra⟩ := reps_reads I rs (by simpa using rv) (by simpa [fl] using h)
      exact ⟨_, .list e2 e3 e4 ra⟩
  | _, _, _, n, .ref _, _, h => by cases n <;> simp [fl] at h
  | _, _, _, n, .ty _, _, h => by cases n <;> simp [fl] at h
  | _, _, _, n, .scr _, _, h => by cases n <;> simp [fl] at h
  | _, _, _, n, .ins _ _ _, _, h => by cases n <;> simp [fl] at h
  | _, _, _, n, .exc _ _ _, _, h => by cases n <;> simp [fl] at h
  | _, _, _, n, .exc0 _, _, h => by cases n <;> simp [fl] at h
  | _, _, _, n, .dK _ _, _, h => by cases n <;> simp [fl] at h
  | _, _, _, n, .dT _ _ _ _ _, _, h => by cases n <;> simp [fl] at h
theorem reps_reads {pins : List (Addr × Obj)} {σ : L2.St} {H : Hp} {s : Shared} (I : Inv X pins σ H s) : ∀ {ds : List D} {xs : List V} {us : List Value} {n : Nat}, Reps X.K H ds xs → Vals xs us → fls n ds = true → ∃ as, ReadsAll s.heap us (toPs ds) as
  | _, _, _, _, .nil, r, h => by
    cases r
    exact ⟨_, .nil⟩
  | _, _, _, n, .cons (d := d) (ds := ds) a b, r, h => by
    have h : fl n d = true ∧ fls n ds = true := by simpa [fls] using h
    cases r with
    | cons r1 r2 =>
      obtain ⟨as, h1⟩ := rep_reads I a r1 h.1
      obtain ⟨bs, h2⟩ := reps_reads I b r2 h.2
      exact ⟨_, .cons h1 h2⟩
end
theorem each_reps {pins : List (Addr × Obj)} {σ : L2.St} {G H : Hp} {m : Mem} {s : Shared} (I : Inv X pins σ H s) (hs : Sep X.K G m H) : ∀ {ds : List D} {xs : List V} {us : List Value} {n : Nat}, Reps X.K G ds xs → Vals xs us → fls n ds = true →
    PySem.W.EachIs (fun v d => ∃ x, Rep X.K G d x ∧ RelV x v) us ds ∧ PySem.W.EachIs (fun v d => ∃ as, Reads s.heap v (toP d) as) us ds
  | _, _, _, _, .nil, r, h => by
    cases r
    exact ⟨.nil, .nil⟩
  | _, _, _, n, .cons (d := d) (ds := ds) a b, r, h => by
    have h : fl n d = true ∧ fls n ds = true := by simpa [fls] using h
    cases r with
    | cons r1 r2 =>
      obtain ⟨h1, h2⟩ := each_reps I hs b r2 h.2
      exact ⟨.cons ⟨_, a, r1⟩ h1, .cons (rep_reads I (a.mono hs.sub) r1 h.1) h2⟩
theorem each_back {K : PySem.W.Frag} {G : Hp} : ∀ {us : List Value} {ds : List D}, PySem.W.EachIs (fun v d => ∃ x, Rep K G d x ∧ RelV x v) us ds → ∃ xs, Reps K G ds xs ∧ Vals xs us
  | _, _, .nil => ⟨[], .nil, .nil⟩
  | _, _, .cons ⟨x, h1, h2⟩ t => by
    obtain ⟨xs, r, v⟩ := each_back t
    exact ⟨x :: xs, .cons h1 r, .cons h2 v⟩
theorem fl_depth {n : Nat} {d : D} (h : fl n d = true) : (toP d).depth ≤ n := (fl_canLay n d h).2
def sortD (ds : List D) : List D := ds.mergeSort (PySem.W.dataLe false toP)
def gSortL : List D → Mem → QD → Prop
  | [x], m, q => ∃ ds, lstOf x m = some ds ∧ fls 50 ds = true ∧ PySem.W.AllAlike (ds.map toP) ∧ PySem.W.Sortable (ds.map toP) ∧ ds.length ≤ sizeLine ∧ q (.lst (sortD ds)) m
  | _, _, _ => False
def gSortLO : List D → Mem → QD → Prop
  | [x], m, q => ∃ ds, lstOf x m = some ds ∧ fls 50 ds = true ∧ PySem.W.AllAlike (ds.map toP) ∧ PySem.W.Sortable (ds.map toP) ∧ ds.length ≤ sizeLine ∧ ∀ p, m p = none → q (.ref p) (mset m p (.lst (sortD ds)))
  | _, _, _ => False
theorem sortD_len (ds : List D) : (sortD ds).length = ds.length := by
  unfold sortD
  rw [List.length_mergeSort]
theorem sort_go (hu : X.A.units + 64 < cLine) {pins : List (Addr × Obj)} {σ : L2.St} {G H : Hp} {m : Mem} {s : Shared} {x : D} {v : V} {u : Value} {ds : List D} {Q : VK} (I : Inv X pins σ H s) (hs : Sep X.K G m H) (h : Rep X.K G x v) (rx : RelV v u) (e : lstOf x m = some ds) (f : fls 50 ds = true) (ha : PySem.W.AllAlike (ds.map toP)) (hk : PySem.W.Sortable (ds.map toP)) (hl : ds.length ≤ sizeLine)
    (q : ∀ p zs, H p = none → Reps X.K G (sortD ds) zs → Q (.ref p) (upd H p (.lst zs))) : wpAny (model X.prog X.w) X.A (call (.builtin "sorted") [u]) (EP X pins σ Q) X.xe s := by
  obtain ⟨p, vs, rfl, hp, ra⟩ := lst_at hs h e
  cases rx
  obtain ⟨its, rv, hls, _⟩ := I.list (SqL.of hp)
  obtain ⟨h1, h2⟩ := each_reps I hs ra rv f
  refine PySem.W.sorted_data hls.isList h1 h2 ha hk hl (fun b hb => ?_) fun out ho eo => ?_
  · have := fl_depth (fls_iff.mp f b hb)
    omega
  · obtain ⟨zs, rz, vz⟩ := each_back eo
    obtain ⟨ep, he'⟩ := PyProof.Rows.sortedAll_at s.heap its out.toArray
    have hlen : zs.length ≤ sizeLine := by
      rw [vz.length, ho]
      exact hl
    exact ⟨.ref _, upd H (s.heap.objs.size + 1) (.lst zs), I.laid (t' := s.toks) (fun _ _ => PyProof.Rows.sortedAll_old) (Nat.le_succ _) ⟨hlen, out, ep, vz, he'⟩, rfl, q _ _ (I.hok.fresh (Nat.le_succ _)) rz⟩
theorem cd_sortL (hu : X.A.units + 64 < cLine) : CallR X (.builtin "sorted") (lowC X.K gSortL) := by
  intro pins s σ H xs us Q I r ⟨ds, m, G, q, hr, hs, hg, hq⟩
  unfold gSortL at hg
  split at hg
  · obtain ⟨es, e, f, ha, hk, hl, k⟩ := hg
    cases hr with
    | cons h t =>
      cases t
      cases r with
      | cons r1 r2 =>
        cases r2
        refine sort_go hu I hs h r1 e f ha hk hl fun p zs hp rz => ?_
        obtain ⟨s2, e2⟩ := hs.laid hp (.lst zs)
        exact hq _ m _ _ _ e2 s2 (.lst upd_same (rz.mono e2)) k
  · exact False.elim hg
theorem cd_sortLO (hu : X.A.units + 64 < cLine) : CallR X (.builtin "sorted") (lowC X.K gSortLO) := by
  intro pins s σ H xs us Q I r ⟨ds, m, G, q, hr, hs, hg, hq⟩
  unfold gSortLO at hg
  split at hg
  · obtain ⟨es, e, f, ha, hk, hl, k⟩ := hg
    cases hr with
    | cons h t =>
      cases t
      cases r with
      | cons r1 r2 =>
        cases r2
        refine sort_go hu I hs h r1 e f ha hk hl fun p zs hp rz => ?_
        exact hq _ _ _ G _ (Same.refl G) (hs.alloc hp (.lst rz)) (.ref p) (k p (hs.freeM hp))
  · exact False.elim hg
end
end DL

/-! DL24: {k: v} with a tuple as its key -/
namespace DL
open PySem PySem.Spec PyProof.Rows L2
section
variable {X : Cx} {W : WX} {pos : Pos}
theorem disp_one {A : Around} {E : Value → Shared → Prop} {s : Shared} {env : Env} {k v : Expr} {Q : Value → Shared → Prop} (hu : A.units + 8 < cLine)
    (h : wpAny (model X.prog X.w) A (evalPairs [(eval k env, do let x ← eval v env; standAt pos; pure x)]) (fun vs s₁ => ∃ ps, CarriesH (nestedKind X.prog X.w) s₁.heap vs ps ∧ s₁.heap.DictOfH (nestedKind X.prog X.w) s.heap.objs.size [] ∧
      ∀ h' tk, h'.DictOfH (nestedKind X.prog X.w) s.heap.objs.size (storedAllH [] ps) → Heap.SameBut s.heap.objs.size s₁.heap h' → Q (.ref s.heap.objs.size) { s₁ with heap := h', toks := tk }) E { s with heap := s.heap.push { cls := .type "dict", data := .dict #[] } }) :
    wpAny (model X.prog X.w) A (eval (.Dict [some k] [v] pos) env) Q E s := by
  rw [arm_eval_Dict]
  have hsh : (evalEachOpt [some k] env).zip ((evalEach [v] env).map fun (v : Sem Value) => (do let x ← v; standAt pos; pure x : Sem Value)) = ([(eval k env, (do let x ← eval v env; standAt pos; pure x : Sem Value))] : List (Sem Value × Sem Value)).map fun p => (some p.1, p.2) := rfl
  rw [hsh, dictDisplay_pairs _ (by simp) (by simp)]
  refine wpAny_bind (wpAny_standAt (wpAny_bind ?_))
  exact wpAny_subDictH (knd := nestedKind X.prog X.w) (Q := fun d s' => wpAny (model X.prog X.w) A (pure (Value.ref d)) Q E s') hu (by simp) (wpAny_mono h (fun vs s₁ ⟨ps, hc, hm, hq⟩ => ⟨ps, hc, hm, fun h' tk a b => wpAny_pure (hq h' tk a b)⟩) fun _ _ e => e)
def rDct1T (rk rv : RE) : RE := fun xd n m q => ∀ p, m p = none → rk xd n (mset m p (.dct true [])) fun y m1 => rv xd n m1 fun z m2 => ∃ ds ky, y = .tup ds ∧ nkOf y = some ky ∧ ky.depth ≤ 8 ∧ m2 p = some (.dct true []) ∧ q (.ref p) (mset m2 p (.dct true [(y, z)]))
theorem de_dct1T (hu : X.A.units + 64 < cLine) {k v : Expr} {rk rv : RE} (hk : DE X W k rk) (hv : DE X W v rv) : DE X W (.Dict [some k] [v] pos) (rDct1T rk rv) := by
  refine ⟨fun pins s σ H Q I ⟨n, m, G, xd, q, hn, hs, hl, hr, hq⟩ => ?_⟩
  have hp : H s.heap.objs.size = none := I.hok.fresh (Nat.le_refl _)
  have ok : ∀ H', ObjOk X.prog X.w H' (s.heap.push { cls := .type "dict", data := .dict #[] }) s.heap.objs.size (dNo s.heap.objs.size []) := fun H' => dno_ok (w' := X.w) (us := []) .nil ⟨_, #[], 0, Heap.get?_push_size _ rfl, ⟨rfl, rfl, rfl⟩, rfl, rfl⟩
  have I1 := I.laid (a := s.heap.objs.size) (o := dNo s.heap.objs.size []) (t' := s.toks) (fun _ _ q => Heap.get?_push_of_some { cls := .type "dict", data := .dict #[] } q) (Nat.le_refl _) (ok _)
  have big : (s.heap.objs.size == sysModules) = false := beq_eq_false_iff_ne.mpr (Ne.symm (Nat.ne_of_lt I.big))
  have sA := hs.alloc hp (RepO.dT (xs := []) big (Nat.zero_le _) List.nodup_nil (RepT.nil (K := X.K) (H := G)))
  generalize hpe : s.heap.objs.size = p at *
  refine disp_one (X := X) (by omega) ?_
  rw [hpe]
  refine evalPairs_cons (thn (hk.run pins _ σ _ (fun y H1 => ∃ dy m1 G1, Same G G1 ∧ Sep X.K G1 m1 H1 ∧ Rep X.K G1 dy y ∧ rv xd n m1 fun z m2 => ∃ ds ky, dy = .tup ds ∧ nkOf dy = some ky ∧ ky.depth ≤ 8 ∧ m2 p = some (.dct true []) ∧ q (.ref p) (mset m2 p (.dct true [(dy, z)]))) I1
    ⟨n, _, G, xd, _, hn, sA, hl, hr p (hs.freeM hp), fun dy m1 y G1 H1 e1 s1 r1 k1 => ⟨dy, m1, G1, e1, s1, r1, k1⟩⟩) fun u s1 ⟨y, H1, I2, ry, dy, m1, G1, e1, sp1, r1, k1⟩ => ?_)
  refine wpAny_bind (thn (hv.run pins _ σ _ (fun z H2 => ∃ dz m2 G2, Same G1 G2 ∧ Sep X.K G2 m2 H2 ∧ Rep X.K G2 dz z ∧ ∃ ds ky, dy = .tup ds ∧ nkOf dy = some ky ∧ ky.depth ≤ 8 ∧ m2 p = some (.dct true []) ∧ q (.ref p) (mset m2 p (.dct true [(dy, dz)]))) I2
    ⟨n, m1, G1, xd, _, hn.mono e1, sp1, hl.mono e1, k1, fun dz m2 z G2 H2 e2 s2 r2 k2 => ⟨dz, m2, G2, e2, s2, r2, k2⟩⟩) fun w2 s2 ⟨z, H2, I3, rz, dz, m2, G2, e2, sp2, r2, ds, ky, ed, ek, hd, mp, k2⟩ => ?_)
  subst ed
  refine wpAny_bind (wpAny_standAt (wpAny_pure (evalPairs_nil ?_)))
  have r1' := r1.mono e2
  cases r1' with
  | tup ea ra =>
    rename_i a vs
    cases ry
    have hkey : (nestedKind X.prog X.w).is s2.heap ky a := ⟨nk_is I3 ((Rep.tup ea ra).mono sp2.sub) rfl ek, hd⟩
    obtain ⟨uu, h1, ro⟩ := sp2.own p _ mp
    cases ro with
    | dT zz ll nd rt =>
      cases rt
      obtain ⟨us0, hv0, hD0⟩ := keyed_at I3 h1 (RepT.nil (K := X.K) (H := H2)) List.nodup_nil
      cases hv0
      refine ⟨[(ky, a, w2)], ⟨rfl, rfl, hkey, True.intro⟩, hD0, fun h' tk hD' hsb => ?_⟩
      have hD' : h'.DictOfH (nestedKind X.prog X.w) p [(ky, a, w2)] := hD'
      obtain ⟨o', es, ep, ho, hx, hdt, he, _, _⟩ := hD'
      have hv' : Vals (([(ky, a, z)] : List (NestedKey × Addr × V)).map (·.2.2)) [w2] := .cons rz .nil
      refine ⟨.ref p, _, I3.write (t' := tk) (x := p) (e := p) (o := dNo p [(ky, a, z)]) (by rw [h1]; exact True.intro) (.inl rfl) (fun b ob hb eb => (hsb.2 b hb).trans eb) ⟨o', ho⟩ (dno_ok (w' := X.w) hv' ⟨o', es, ep, ho, hx, hdt, he⟩), rfl, ?_⟩
      exact hq _ _ _ G2 _ (e1.trans e2) (sp2.write mp (.dT big (by rw [sizeLine_eq, List.length_cons, List.length_nil]; decide) (by simp) (.cons ek hd (.tup ea ra) r2 .nil))) (.ref p) k2
end
end DL

/-! DL25: len(o) and o(..) of own instances -/
namespace DL
open PySem PySem.Spec PyProof.Rows L2
section
variable {X : Cx} {W : WX} {pos : Pos}
theorem len_obj {A : Around} {E : Value → Shared → Prop} {s : Shared} {K : PySem.W.Frag} {x C f : Addr} {ox : Obj} {od : Option Obj} {Q : Value → Shared → Prop} (kin : K.In s.heap) (I : PySem.W.InstAt s.heap x ox C od) (hs : PySem.W.findIn K (.ref C) "__len__" = some (some (.ref f))) (hf : PySem.W.isFn K (.ref f) = true)
    (h : wpAny (model X.prog X.w) A.in1 (call (.ref f) [.ref x]) (fun v s' => ∃ n t, v = .int n t ∧ 0 ≤ n ∧ n < 2 ^ 63 ∧ Q (.int n s'.toks) { s' with toks := s'.toks + 1 }) E s) : wpAny (model X.prog X.w) A (call (.builtin "len") [.ref x]) Q E s := by
  refine Calls.call_function_entry kind_len plain_len entry_len (args_len1 _) (show wpAny _ _ (Builtin.«len» _) _ _ _ from ?_)
  unfold Builtin.«len»
  refine wpAny_bind (m := oneArg "len" _) (wpAny_pure (wpAny_bind (m := callSpecial? (.ref x) (Str.ofString "__len__")) (PySem.W.special_fn kin I hs (beq_iff_eq.mp hf) (wpAny_mono h (fun r s' ⟨n, t, e, h0, h1, hq⟩ => ?_) fun _ _ y => y))))
  subst e
  refine wpAny_bind (wpAny_holding (wpAny_pure (wpAny_bind (wpAny_letGo ?_))))
  show wpAny _ _ (if n < 0 then (_ : Sem _) else _) _ _ _
  rw [if_neg (show ¬ n < 0 by omega)]
  show wpAny _ _ (if n ≥ 2 ^ 63 then (_ : Sem _) else _) _ _ _
  rw [if_neg (show ¬ n ≥ 2 ^ 63 by omega)]
  exact wpAny_bind (wpAny_mkInt (wpAny_pure ⟨_, rfl, hq⟩))
theorem call_len_own {k : Nat} {C f : Addr} {fd : FuncData} {sp : Sp} (hf : Meth X.K C "__len__" f) (F : FnOk X.prog X.w X.K X.mg X.base (L2.CX X.prog X.w) k f fd ["self"] sp) (hr : Room (k + 1) X.A) (hb : Binds X.K fd ["self"] []) :
    CallR X (.builtin "len") (fun vs H Q => ∃ a dx fs, vs = [.ref a] ∧ H a = some (.ins C dx fs) ∧ sp [.ref a] H (fun v H2 => ∃ i : Int, v = .int i ∧ 0 ≤ i ∧ i < 2 ^ 63 ∧ Q (.int i) H2) fun _ _ _ => False) := by
  intro pins s σ H xs us Q I r h
  obtain ⟨a, dx, fs, rfl, ea, h⟩ := h
  obtain ⟨u, rfl, rx⟩ := vals1 r
  obtain rfl : u = .ref a := rx
  obtain ⟨mA, O, _, _, _, _⟩ := ins_get I.hok ea
  obtain ⟨od, J, _⟩ := O.look
  refine len_obj I.kIn J hf.at_ hf.fn (wpAny_call (codeAny_mono (F.run X.A.in1 X.stack s H ⟨[.ref a], []⟩ [.ref a] [.ref a] _ _ hr.in1 I.env0.in1 (by simpa using hb s [.ref a] I.kIn rfl) (.cons rfl .nil) h) fun r s' hq => ?_))
  cases r with
  | error er => exact False.elim (pas_nox pins σ H s er s' (I.wish _) hq)
  | ok fl =>
    cases fl with
    | ret u =>
      obtain ⟨v, H', I3, rv, i, rfl, h0, h1, q3⟩ := I.after hq
      obtain ⟨t, rfl⟩ := rv
      exact ⟨i, t, rfl, h0, h1, .int i, H', I3.tok _, ⟨_, rfl⟩, q3⟩
    | _ => exact False.elim hq
/-- len(o) -/
structure LenO (P : Program) (w : World) (K : PySem.W.Frag) (mg : Str → Option Value) (base : Heap) (k : Nat) (nm : Str) (sp : SpD) : Prop where
  ex : ∃ C f fd, ClsI K nm C ∧ Meth K C "__len__" f ∧ FnD P w K mg base k f fd ["self"] sp ∧ Binds K fd ["self"] []
def gLenO (nm : Str) (sp : SpD) : List D → Mem → QD → Prop
  | [x], m, q => ∃ fs, insOf x m = some (nm, fs) ∧ sp [x] m (fun d m2 => ∃ i : Int, d = .int i ∧ 0 ≤ i ∧ i < 2 ^ 63 ∧ q (.int i) m2) fun _ _ _ => False
  | _, _, _ => False
theorem cd_lenO {j k : Nat} {nm : Str} {sp : SpD} (c : LenO X.prog X.w X.K X.mg X.base k nm sp) (hr : Room j X.A) (hk : k + 1 ≤ j) : CallR X (.builtin "len") (lowC X.K (gLenO nm sp)) := by
  obtain ⟨C, f, fd, ci, hm, F, hb⟩ := c.ex
  refine crN (call_len_own hm F (hr.mono hk) hb) fun H G m ds vs q Q hr hs hg hq => ?_
  unfold gLenO at hg
  split at hg
  · obtain ⟨fs, e, k⟩ := hg
    cases hr with
    | cons h r =>
      cases r
      obtain ⟨p, C', dx, gs, rfl, ci', hp, rf⟩ := ins_at hs h e
      have := ci.eq ci'
      subst this
      refine ⟨p, dx, gs, rfl, hp, [_], m, G, _, _, .cons h .nil, hs, k, fun d m' v G' H' e3 s3 r3 ⟨i, ed, h0, h1, k3⟩ => ?_, fun _ _ _ _ _ _ _ _ _ _ z => z⟩
      subst ed
      cases r3
      exact ⟨i, rfl, h0, h1, hq _ m' _ G' H' e3 s3 (.int i) k3⟩
  · exact False.elim hg
end
/-! ### o(..) -/
section
variable {X : Cx} {W : WX} {pos : Pos} {fe e : Expr} {es : List Expr} {rf : RE} {ra : RA}
def tCallS (C : Addr) (sp : Sp) (E : L2.St → XK) (tf : TE) (t : TA) : TE := fun σ H Q => tf σ H fun y H1 => ∃ a, y = V.ref a ∧ t σ H1 fun vs H2 => (∃ dx fs, H2 a = some (.ins C dx fs)) ∧ sp (V.ref a :: vs) H2 Q (E σ)
theorem pe_callS {CX : CXT} {k : Nat} {C g : Addr} {fd : FuncData} {ps : List Str} {sp : Sp} {E : L2.St → XK} {tf : TE} {t : TA} (hf : PE X fe tf) (c : StX.CallO X.K C g) (F : FnOk X.prog X.w X.K X.mg X.base CX k g fd ps sp) (hr : Room k X.A) (hb : Binds X.K fd ps []) (hx : ∀ σ, PassesAt CX X σ (E σ)) (ha : PA X (e :: es) t)
    (ht : eval (.Call fe (e :: es) [] pos) X.env = (do callWith pos (← eval fe X.env) [] (backTo pos (starEach (e :: es) X.env)) (backToKw pos (keywordEach [] X.env))) := by rfl)
    (he : starEach (e :: es) X.env = (false, eval e X.env) :: starEach es X.env := by rfl) (hpl : (backTo pos (starEach es X.env)).any (·.1) = false := by rfl) : PE X (.Call fe (e :: es) [] pos) (tCallS C sp E tf t) := by
  refine ⟨fun pins s σ H Q I h => Call_ (thn (hf.run pins s σ H _ I h) fun u s1 ⟨y, H1, I1, ry, a, ey, q⟩ => ?_) ht⟩
  subst ey
  cases (show u = Value.ref a from ry)
  refine StX.callO_with (thn (ha.run pos pins s1 σ H1 _ I1 q) fun us s2 ⟨vs, H2, I2, r, ⟨dx, fs, hi⟩, q2⟩ => ?_) he hpl
  obtain ⟨mA, O, _⟩ := ins_get I2.hok hi
  obtain ⟨od, J, _⟩ := O.look
  refine ⟨⟨C, _, _, J, rfl⟩, wpAny_call (PySem.W.kco_code I2.kIn J rfl c.at_ c.fn c.fi ?_)⟩
  have rv : Vals (V.ref a :: vs) (Value.ref a :: us) := .cons rfl r
  have hl : (Value.ref a :: us).length = ps.length := rv.length.symm.trans (F.len _ _ _ _ q2)
  refine codeAny_mono (F.run X.A X.stack s2 H2 ⟨.ref a :: us, []⟩ (.ref a :: us) (.ref a :: vs) Q (E σ) hr I2.env0 (by simpa using hb s2 (.ref a :: us) I2.kIn (by simpa using hl)) rv q2) fun r s' hq => ?_
  cases r with
  | error er => exact hx σ pins H2 s2 er s' I2 hq
  | ok fl =>
    cases fl with
    | ret u =>
      obtain ⟨v, H', I3, rv, q3⟩ := I2.after hq
      exact ⟨v, H', I3, rv, q3⟩
    | _ => exact False.elim hq
structure ObjC (P : Program) (w : World) (K : PySem.W.Frag) (mg : Str → Option Value) (base : Heap) (k : Nat) (nm : Str) (ps : List Str) (sp : SpD) : Prop where
  ex : ∃ C f fd, ClsI K nm C ∧ StX.CallO K C f ∧ FnD P w K mg base k f fd ps sp ∧ Binds K fd ps []
def rCallO (nm : Str) (sp : SpD) (rf : RE) (ra : RA) : RE := fun xd n m0 q => rf xd n m0 fun d m1 => ∃ fs, insOf d m1 = some (nm, fs) ∧ ra xd n m1 fun ds m2 => (∃ gs, insOf d m2 = some (nm, gs)) ∧ sp (d :: ds) m2 q fun c fs m' => xd c fs n m'
theorem de_callO {j k : Nat} {nm : Str} {ps : List Str} {sp : SpD} (c : ObjC X.prog X.w X.K X.mg X.base k nm ps sp) (hr : Room j X.A) (hk : k ≤ j) (hx : Pas X W) (hf : DE X W fe rf) (ha : DA X W (e :: es) ra)
    (ht : eval (.Call fe (e :: es) [] pos) X.env = (do callWith pos (← eval fe X.env) [] (backTo pos (starEach (e :: es) X.env)) (backToKw pos (keywordEach [] X.env))) := by rfl)
    (he : starEach (e :: es) X.env = (false, eval e X.env) :: starEach es X.env := by rfl) (hpl : (backTo pos (starEach es X.env)).any (·.1) = false := by rfl) : DE X W (.Call fe (e :: es) [] pos) (rCallO nm sp rf ra) := by
  obtain ⟨C, f, fd, ci, co, F, b⟩ := c.ex
  refine PE.imp (pe_callS (E := WE W) hf co F (hr.mono hk) b hx ha ht he hpl) fun t H Q ⟨n, m, G, xd, q, hn, hs, hl, hr, hq⟩ => ⟨n, m, G, xd, _, hn, hs, hl, hr, fun d m1 v G1 H1 e1 s1 r1 ⟨fs, ei, k⟩ => ?_⟩
  obtain ⟨p, C', dx, gs, rfl, ci', hp, rf⟩ := ins_at s1 r1 ei
  refine ⟨p, rfl, n, m1, G1, xd, _, hn.mono e1, s1, hl.mono e1, k, fun ds m2 vs G2 H2 e2 s2 r2 ⟨⟨gs2, ei2⟩, k2⟩ => ?_⟩
  obtain ⟨p2, C2, dx2, gs3, ep, ci2, hp2, rf2⟩ := ins_at s2 (r1.mono e2) ei2
  cases ep
  have := ci.eq ci2
  subst this
  exact ⟨⟨dx2, gs3, hp2⟩, d :: ds, m2, G2, q, _, .cons (r1.mono e2) r2, s2, k2, fun d m' v G' H' e3 s3 r3 q3 => hq d m' v G' H' (e1.trans (e2.trans e3)) s3 r3 q3, fun nm c fs o m' G' H' e3 s3 r3 q3 => hl nm c fs o n m' t G' H' (e1.trans (e2.trans e3)) s3 (hn.mono (e1.trans (e2.trans e3))) r3 q3⟩
end
end DL

/-! DL26: comprehensions of several clauses: what stands behind a clause is any body that keeps its word -/
namespace DL
open PySem PySem.Spec PyProof.Rows L2
abbrev TB := L2.St → Hp → (Hp → Prop) → Prop
/-- behind a clause's tests: N is reached; the names vs may have changed -/
def PB (B : Cx) (body : Sem Unit) (vs : List Nat) (tb : TB) : Prop :=
  ∀ (pins : List (Addr × Obj)) (s : Shared) (σ : L2.St) (H : Hp) (N : Hp → Prop), Inv B pins σ H s → tb σ H N →
    wpAny (model B.prog B.w) B.A body (fun _ s' => ∃ σ' H', Inv B pins σ' H' s' ∧ wipe σ' vs = wipe σ vs ∧ N H') (fun _ _ => False) s
section
variable {B : Cx} {elt i tg : Expr} {gens : List Comprehension} {ifs : List Expr} {scope : Scope} {pos : Pos} {d : Nat} {D : Addr}
theorem thnX {α : Type} {t : Sem α} {Q Q' : α → Shared → Prop} {E : Value → Shared → Prop} {s : Shared} (hxe : B.xe = fun _ _ => False) (h : wpAny (model B.prog B.w) B.A t Q B.xe s) (hQ : ∀ a s, Q a s → Q' a s) : wpAny (model B.prog B.w) B.A t Q' E s :=
  wpAny_mono h hQ fun _ _ z => by
    rw [hxe] at z
    exact z.elim
def emitB (elt : Expr) (acc : Value) (env : Env) : Sem Unit := (do let _ ← call (.builtin "list.append") [acc, ← eval elt env])
def tEmit (D : Addr) (te : TE) : TB := fun σ H N => te σ H fun y H7 => ∃ acc, H7 D = some (.lst acc) ∧ acc.length < sizeLine ∧ N (upd H7 D (.lst (acc ++ [y])))
theorem pb_emit {te : TE} (hxe : B.xe = fun _ _ => False) (he : PE B elt te) : PB B (emitB elt (.ref D) B.env) [] (tEmit D te) := fun pins s σ H N I h => by
  unfold emitB
  exact wpAny_bind (thnX hxe (he.run pins s σ H _ I h) fun z s1 ⟨y, H1, I1, r1, acc, hD, hz, nx⟩ => wpAny_bind (app_ok I1 hD hz r1 fun s2 I2 => wpAny_pure ⟨σ, _, I2, rfl, nx⟩))
/-- one turn of a clause -/
def turnB (elt : Expr) (gens : List Comprehension) (scope : Scope) (pos : Pos) (d : Nat) (ip : Pos) (tg : Expr) (ifs : List Expr) (it acc : Value) (env : Env) (body : Sem Unit) : Sem PySem.Fin := do
  standAt ip
  match ← pyNext it with
  | none => pure (.done .next)
  | some v =>
    letOwnedTupleGo tg it v
    assign tg env v
    let mut ok := true
    for c in ifs do
      if ok then ok ← isTrue c env (eval c env)
    if ok then body
    again (.compLoop (.ListComp elt gens scope pos) d it acc env)
/-- the start of the next clause -/
def stageB (elt : Expr) (gens : List Comprehension) (scope : Scope) (pos : Pos) (d : Nat) (i : Expr) (acc : Value) (env : Env) : Sem Unit := do
  let x ← eval i env
  standAt i.pos
  let x ← foldedSetIterable i env x
  let _ ← runOwn (.compStart (.ListComp elt gens scope pos) d (← holding [x] (pyIter x)) acc env) env
theorem loopB {prog : Program} {w : World} {A : Around} {R : Result → Shared → Prop} {s : Shared} {it acc : Value} {env : Env} {ip : Pos} {body : Sem Unit} (hT : compTurn (.ListComp elt gens scope pos) d it acc env = turnB elt gens scope pos d ip tg ifs it acc env body) (I : Nat → Shared → Prop)
    (turn : ∀ n s, I n s → wpAny (model prog w) A (pyNext it) (fun r s1 => match r with
      | none => R (.ok .next) s1
      | some v => wpAny (model prog w) A (letOwnedTupleGo tg it v) (fun _ s2 => wpAny (model prog w) A (assign tg env v) (fun _ s3 =>
          wpAny (model prog w) A (forIn ifs true fun c r => if r = true then do let ok ← isTrue c env (eval c env); pure (ForInStep.yield ok) else pure (ForInStep.yield r)) (fun ok s4 =>
            if ok = true then wpAny (model prog w) A body (fun _ s5 => ∃ m, m < n ∧ I m s5) (fun _ _ => False) s4 else ∃ m, m < n ∧ I m s4) (fun _ _ => False) s3) (fun _ _ => False) s2) (fun _ _ => False) s1) (fun _ _ => False) s)
    (n : Nat) (h : I n s) : codeAny (model prog w) A (.compLoop (.ListComp elt gens scope pos) d it acc env) R s := by
  refine codeAny_loop rfl I (fun n s hI => ?_) n h
  show wpAny _ A ((compTurn (.ListComp elt gens scope pos) d it acc env).onRaise (fun x => do noteFrame x env; theTreesLotGoes x)) _ _ s
  refine wpAny_noted ?_
  rw [hT]
  unfold turnB
  refine wpAny_bind (wpAny_standAt (wpAny_bind (thnF (turn n s hI) fun r s1 h1 => ?_)))
  cases r with
  | none => exact wpAny_pure h1
  | some v =>
    refine wpAny_bind (thnF h1 fun _ s2 h2 => wpAny_bind (thnF h2 fun _ s3 h3 => wpAny_bind (thnF h3 fun ok s4 h4 => ?_)))
    cases ok with
    | false => exact wpAny_pure ⟨rfl, h4⟩
    | true => exact wpAny_bind (thnF h4 fun _ s5 h5 => wpAny_pure ⟨rfl, h5⟩)
theorem startB {prog : Program} {w : World} {A : Around} {R : Result → Shared → Prop} {s : Shared} {it acc : Value} {env : Env} (hg : gens[d + 1]? = some ⟨tg, i, ifs, 0⟩) (h0 : codeAny (model prog w) A (.compLoop (.ListComp elt gens scope pos) (d + 1) it acc env) R s)
    (h : wpAny (model prog w) A (pyIter it) (fun it' s' => codeAny (model prog w) A (.compLoop (.ListComp elt gens scope pos) (d + 1) it' acc env) R s') (notedBy (model prog w) A env fun x s' => R (.error x) s') s) :
    codeAny (model prog w) A (.compStart (.ListComp elt gens scope pos) (d + 1) it acc env) R s := by
  refine codeAny_of_tree ?_
  show wpAny _ _ ((compStart (.ListComp elt gens scope pos) (d + 1) it acc env).onRaise (fun x => do noteFrame x env; standAt theWindowsPlace)) _ _ s
  refine wpAny_notedAt ?_
  unfold compStart
  rw [show clausesOf (.ListComp elt gens scope pos) = gens from rfl, hg]
  show wpAny _ _ (ask >>= _) _ _ s
  refine wpAny_bind (wpAny_askSetting (wpAny_ite ?_))
  split
  · exact wpAny_pure ⟨rfl, h0⟩
  · exact wpAny_bind (wpAny_rule (wpAny_bind (wpAny_standAt (wpAny_bind (wpAny_mono h (fun it' s' h' => wpAny_pure ⟨rfl, h'⟩) fun _ _ x => x)))))
/-- a clause within another -/
def tClause (wi : TI) (g : TG) (tt : TT) (tb : TB) (vs : List Nat) : TB := fun σ H N => wi σ H fun J H1 => ∃ V : Nat → Nat → Hp → Prop, (∃ m, V 0 m H1) ∧ ∀ j k H, V j k H →
  (J.stop j H ∧ N H) ∨ (J.go j H ∧ ∃ M : Hp → Prop, (∀ H', M H' → ∃ k', k' < k ∧ V (j + 1) k' H') ∧ ∀ x H', J.yld j H x H' → g x (wipe σ vs) H' fun σ3 H5 => wipe σ3 vs = wipe σ vs ∧ tt σ3 H5 fun b H6 => if b = true then tb σ3 H6 M else M H6)
theorem wipe_in {σ σ' τ : L2.St} {vs ws : List Nat} (h1 : wipe τ vs = wipe σ vs) (h2 : wipe σ' ws = wipe τ ws) (hw : ∀ j ∈ ws, j ∈ vs) : (wipe σ vs).length = σ'.length ∧ ∀ (j : Nat) v, (wipe σ vs)[j]? = some (some v) → σ'[j]? = some (some v) := by
  constructor
  · have l1 := congrArg List.length h1
    have l2 := congrArg List.length h2
    simp only [wipe_length] at l1 l2 ⊢
    omega
  · intro j v e
    rw [← h1] at e
    obtain ⟨e1, e2⟩ := wipe_some e
    have e3 : (wipe τ ws)[j]? = some (some v) := by
      rw [L2.wipe_out fun z => e2 (hw j z)]
      exact e1
    rw [← h2] at e3
    exact (wipe_some e3).1
theorem pb_clause {wi : TI} {g : TG} {tt : TT} {tb : TB} {body : Sem Unit} {vs ws : List Nat} (hc : B.calm = true) (hxe : B.xe = fun _ _ => False) (hT : ∀ it, compTurn (.ListComp elt gens scope pos) (d + 1) it (.ref D) B.env = turnB elt gens scope pos (d + 1) i.pos tg ifs it (.ref D) B.env body)
    (hg0 : gens[d + 1]? = some ⟨tg, i, ifs, 0⟩) (hs : ∀ x, foldedSetIterable i B.env x = pure x) (hi : PI B tg i wi) (hg : PG B tg g) (ht : PTs B ifs tt) (hb : PB B body ws tb) (hin : ∀ j ∈ ws, j ∈ vs) : PB B (stageB elt gens scope pos (d + 1) i (.ref D) B.env) vs (tClause wi g tt tb vs) := fun pins s σ H N I h => by
  unfold stageB
  have hi' := hi.run pins s σ H _ I h
  refine wpAny_bind (thnX hxe hi' fun xv s1 hx => wpAny_bind (wpAny_standAt (wpAny_bind (wpAny_of_eq (hs xv) (wpAny_bind (wpAny_holding (thnX hxe hx fun itv s2 h2 => ?_)))))))
  obtain ⟨it, fp, tn, J, H2, e, I2, T, st2, f2, V, ⟨m0, v0⟩, go⟩ := h2
  subst e
  have hfp : ∀ {H' : Hp}, (∀ b ∈ fp, H' b = none) → ∀ b ∈ fp, FpOk B pins H' b := fun hn b hb => ⟨hn b hb, (f2 b hb).2⟩
  have loop : codeAny (model B.prog B.w) B.A (.compLoop (.ListComp elt gens scope pos) (d + 1) (.ref it) (.ref D) B.env) (fun r s' => match r with
      | .ok _ => ∃ σ' H', Inv B pins σ' H' s' ∧ wipe σ' vs = wipe σ vs ∧ N H'
      | .error _ => False) s2 := by
    refine loopB (hT _) (fun k s' => ∃ j H', Inv B pins (wipe σ vs) H' s' ∧ tn j s'.heap ∧ (∀ b ∈ fp, H' b = none) ∧ V j k H') ?_ m0 ⟨0, H2, I2.weak (wipe_length _ _) (fun j v e => (wipe_some e).1), st2, fun b hb => (f2 b hb).1, v0⟩
    rintro k s3 ⟨j, H3, I3, st3, n3, v3⟩
    rcases go j k H3 v3 with ⟨stop, nx⟩ | ⟨goes, M, hM, step⟩
    · refine thnF (T.done B rfl rfl rfl hc j _ s3 (wipe σ vs) H3 (fun _ _ => False) I3 (hfp n3) st3 stop) fun r s4 ⟨hr, I4⟩ => ?_
      subst hr
      exact ⟨wipe σ vs, H3, I4, wipe_wipe vs, nx⟩
    · refine thnF (T.item B rfl rfl rfl hc j _ s3 (wipe σ vs) H3 (fun _ _ => False) I3 (hfp n3) st3 goes) fun r s4 ⟨u, hr, h4⟩ => ?_
      subst hr
      refine thnF h4 fun _ s5 ⟨x, H5, I5, r5, y5, st5, n5⟩ => ?_
      have I5' := I5.pinned (hfp n5) (T.obj _ _ st5)
      refine thnX hxe (hg.run _ s5 (wipe σ vs) H5 x u _ I5' r5 (step x H5 y5)) fun _ s6 ⟨σ6, H6, I6, w6, q6⟩ => ?_
      refine thnX hxe (ht.run _ s6 σ6 H6 _ I6 q6) fun b s7 ⟨H7, I7, q7⟩ => ?_
      have fin : ∀ {σ' : L2.St} {s' : Shared} {H' : Hp}, Inv B (pins ++ pinsAt fp s5.heap) σ' H' s' → wipe σ' ws = wipe σ6 ws → M H' → ∃ m, m < k ∧ ∃ j H', Inv B pins (wipe σ vs) H' s' ∧ tn j s'.heap ∧ (∀ b ∈ fp, H' b = none) ∧ V j m H' := fun {σ' s' H'} I' hw nx => by
        obtain ⟨k', hk, v'⟩ := hM H' nx
        obtain ⟨l, kp⟩ := wipe_in w6 hw hin
        have pin : ∀ b ∈ fp, ∀ o, s5.heap.get? b = some o → s'.heap.get? b = some o ∧ H' b = none := fun b hb o e => by
          have z := I'.pin (b, o) (List.mem_append_right _ (List.mem_append_right _ (mem_pinsAt hb e)))
          exact ⟨z.1, z.2.1⟩
        refine ⟨k', hk, j + 1, H', I'.unpinned.weak l kp, T.keep _ _ _ st5 fun b hb o e => (pin b hb o e).1, fun b hb => ?_, v'⟩
        obtain ⟨o, e, _⟩ := T.obj _ _ st5 b hb
        exact (pin b hb o e).2
      cases b with
      | false =>
        simp only [Bool.false_eq_true, if_false] at q7 ⊢
        exact fin I7 rfl q7
      | true =>
        simp only [if_true] at q7 ⊢
        exact thnF (hb _ s7 σ6 H7 M I7 q7) fun _ s8 ⟨σ8, H8, I8, w8, n8⟩ => fin I8 w8 n8
  refine wpAny_bind (wpAny_runOwn ?_)
  rw [Around.mark_none]
  refine codeAny_mono (startB hg0 loop (T.self B.A 0 _ _ _ st2 loop)) fun r s' hr => ?_
  cases r with
  | ok f =>
    first
      | exact wpAny_pure hr
      | exact wpAny_bind (wpAny_pure (wpAny_pure hr))
  | error e => exact hr.elim
end
section
variable {X : Cx} {elt iter tg : Expr} {rest : List Comprehension} {ifs : List Expr} {scope : Scope} {own : List (Str × Nat)} {pos : Pos}
/-- [..]: the first clause; tb D: what stands behind it, D the new list -/
def tLcG (wi : TI) (g : TG) (tt : TT) (tb : Addr → TB) (vs : List Nat) : TE := fun σ H Q => wi σ H fun J H1 => ∀ D, H1 D = none → ∃ V : Nat → Nat → Hp → Prop, (∃ m, V 0 m (upd H1 D (.lst []))) ∧ ∀ i m H, V i m H →
  (J.stop i H ∧ Q (.ref D) H) ∨ (J.go i H ∧ ∃ M : Hp → Prop, (∀ H', M H' → ∃ m', m' < m ∧ V (i + 1) m' H') ∧ ∀ x H', J.yld i H x H' → g x (wipe σ vs) H' fun σ2 H2 => wipe σ2 vs = wipe σ vs ∧ tt σ2 H2 fun b H3 => if b = true then tb D σ2 H3 M else M H3)
theorem pe_lcG {wi : TI} {g : TG} {tt : TT} {tb : Addr → TB} {ws : List Nat} {body : Addr → Env → Sem Unit} (hc : X.calm = true) (hN : X.N.Nodup) (hi : PI X tg iter wi) (ok : BlkOk X.N X.env.scope scope own)
    (hT : ∀ D it env, compTurn (.ListComp elt (⟨tg, iter, ifs, 0⟩ :: rest) scope pos) 0 it (.ref D) env = turnB elt (⟨tg, iter, ifs, 0⟩ :: rest) scope pos 0 iter.pos tg ifs it (.ref D) env (body D env))
    (hg : ∀ (s : Shared) (H : Hp) (C : Addr) (cl : List (Str × Addr)) (fp : List Addr), PG (X.blk s H scope (compEnvC scope cl C X.env) fp) tg g) (ht : ∀ (s : Shared) (H : Hp) (C : Addr) (cl : List (Str × Addr)) (fp : List Addr), PTs (X.blk s H scope (compEnvC scope cl C X.env) fp) ifs tt)
    (hb : ∀ (D : Addr) (s : Shared) (H : Hp) (C : Addr) (cl : List (Str × Addr)) (fp : List Addr), PB (X.blk s H scope (compEnvC scope cl C X.env) fp) (body D (compEnvC scope cl C X.env)) ws (tb D)) (hin : ∀ j ∈ ws, j ∈ own.map (·.2))
    (hs : ∀ x, foldedSetIterable iter X.env x = pure x := by intro _; rfl) : PE X (.ListComp elt (⟨tg, iter, ifs, 0⟩ :: rest) scope pos) (tLcG wi g tt tb (own.map (·.2))) := by
  refine ⟨fun pins s σ H Q I h => ?_⟩
  rw [eval_ListComp]
  have hfree : ∀ y ∈ scope.names, y.2 = .free → ∃ c, X.env.cells.lookup y.1 = some c := fun y hy e => (ok.free y hy e).elim (fun k => I.ok.has _ (.inl k)) fun k => I.ok.has _ (.inr k)
  refine wpAny_comprehension_free (use := none) rfl hs (closure_ok hfree) ok.kind (fun y hy e => by rw [ok.uniq y hy, e]) (thn (hi.run pins s σ H _ I h) fun xv s1 hx => thn hx fun itv s2 h2 => ?_)
  obtain ⟨it, fp, tn, J, H2, e, I2, T, st2, f2, q⟩ := h2
  subst e
  refine wpAny_newObj_type (newEnv_comp ?_) (show 0 ≤ sizeLine by decide)
  generalize hD : s2.heap.objs.size = D
  obtain ⟨V, ⟨m0, v0⟩, turn⟩ := q D (I2.hok.fresh (Nat.le_of_eq hD))
  generalize hs3 : ({ s2 with heap := s2.heap.push { cls := .type "list", data := .seq ([] : List Value).toArray } } : Shared) = s3
  have h3 : s3.heap = s2.heap.push { cls := .type "list", data := .seq ([] : List Value).toArray } := by rw [← hs3]
  have I3 : Inv X pins σ (upd H2 D (.lst [])) s3 := by
    rw [← hs3]
    exact I2.laid (t' := s2.toks) (fun b o e => Heap.get?_push_of_some _ e) (Nat.le_of_eq hD) ⟨Nat.zero_le _, [], 0, .nil, by rw [← hD]; exact Heap.get?_push_size _ rfl⟩
  have f3 : ∀ b ∈ fp, FpOk X pins (upd H2 D (.lst [])) b ∧ b < s3.heap.objs.size := fun b hb => by
    obtain ⟨o, eo, _⟩ := T.obj _ _ st2 b hb
    have hlt := Heap.lt_size eo
    refine ⟨⟨?_, (f2 b hb).2⟩, by rw [h3, Heap.size_push]; exact Nat.lt_succ_of_lt hlt⟩
    rw [upd_ne (show b ≠ D by rw [← hD]; exact Nat.ne_of_lt hlt)]
    exact (f2 b hb).1
  have st3 : tn 0 s3.heap := T.keep _ _ _ st2 fun b _ o e => by rw [h3]; exact Heap.get?_push_of_some _ e
  have I4 := block_start I3 ok hN f3
  have pg := hg s3 (upd H2 D (.lst [])) s3.heap.objs.size (cellsFrom (s3.heap.objs.size + 1) scope.names (cloFrom X.env.cells scope.names [])) fp
  have pt := ht s3 (upd H2 D (.lst [])) s3.heap.objs.size (cellsFrom (s3.heap.objs.size + 1) scope.names (cloFrom X.env.cells scope.names [])) fp
  have pb := hb D s3 (upd H2 D (.lst [])) s3.heap.objs.size (cellsFrom (s3.heap.objs.size + 1) scope.names (cloFrom X.env.cells scope.names [])) fp
  show codeAny _ _ (.compStart (.ListComp elt (⟨tg, iter, ifs, 0⟩ :: rest) scope pos) 0 (.ref it) (.ref D) (compEnvC scope (cellsFrom (s3.heap.objs.size + 1) scope.names (cloFrom X.env.cells scope.names [])) s3.heap.objs.size X.env)) (compPost (model X.prog X.w) X.A X.xe none _ (.ref D) s3.heap.objs.size) { s3 with heap := pushCells (s3.heap.push { cls := .type "dict", data := .dict #[] }) scope.names }
  have nfp : ∀ b ∈ fp, (upd H2 D (.lst [])) b = none := fun b hb => (f3 b hb).1.1
  generalize hce : compEnvC scope (cellsFrom (s3.heap.objs.size + 1) scope.names (cloFrom X.env.cells scope.names [])) s3.heap.objs.size X.env = ce at I4 pg pt pb ⊢
  have cL : ce.locals = s3.heap.objs.size := by rw [← hce]; rfl
  generalize hH3 : upd H2 D (.lst []) = H3 at I3 I4 pg pt pb v0 nfp f3
  generalize hs4 : ({ s3 with heap := pushCells (s3.heap.push { cls := .type "dict", data := .dict #[] }) scope.names } : Shared) = s4 at I4 ⊢
  have st4 : tn 0 s4.heap := T.keep _ _ _ st3 fun b _ o e => by rw [← hs4]; exact pushCells_keeps _ _ _ _ (Heap.get?_push_of_some _ e)
  have stat : ∀ {σ' : L2.St} {H' : Hp} {s' : Shared}, Inv (X.blk s3 H3 scope ce fp) [] σ' H' s' → (∀ b ∈ fp, H' b = none) → ∀ b ∈ fp, FpOk (X.blk s3 H3 scope ce fp) [] H' b := fun {σ' H' s'} I' hn b hb =>
    ⟨hn b hb, (I'.ok.exf b hb).1, I'.ok.exfs b hb, .inl hb, fun x c e => (I'.ok.exf b hb).2 x c e, fun p hp => absurd (show p ∈ ([] : List (Addr × Obj)) ++ [] from hp) (by simp)⟩
  have loop : codeAny (model X.prog X.w) X.A (.compLoop (.ListComp elt (⟨tg, iter, ifs, 0⟩ :: rest) scope pos) 0 (.ref it) (.ref D) ce) (compPost (model X.prog X.w) X.A X.xe none (EP X pins σ Q) (.ref D) s3.heap.objs.size) s4 := by
    refine loopB (hT D _ ce) (fun k s' => ∃ j H', Inv (X.blk s3 H3 scope ce fp) [] (wipe σ (own.map (·.2))) H' s' ∧ tn j s'.heap ∧ (∀ b ∈ fp, H' b = none) ∧ V j k H') ?_ m0 ⟨0, H3, I4, st4, nfp, v0⟩
    rintro k s5 ⟨j, H5, I5, st5, n5, v5⟩
    rcases turn j k H5 v5 with ⟨stop, qq⟩ | ⟨go, M, hM, step⟩
    · refine thnF (T.done (X.blk s3 H3 scope ce fp) rfl rfl rfl hc j [] s5 _ H5 (fun _ _ => False) I5 (stat I5 n5) st5 stop) fun r s6 ⟨hr, I6⟩ => ?_
      subst hr
      have I7 : Inv X pins σ H5 s6 := I3.call' (ch := fp) I6.os I6.base I6.hok I6.bare fun b hb => ⟨(f3 b hb).1.2.2.2.1, (f3 b hb).1.2.1, (f3 b hb).1.2.2.2.2.1, (f3 b hb).1.2.2.2.2.2⟩
      have nC : H5 s3.heap.objs.size = none := by
        rw [← cL]
        exact I6.free
      obtain ⟨mm, hn, _⟩ := I6.loc
      have hn : s6.heap.Ns ce.locals mm := hn
      rw [cL] at hn
      obtain ⟨g0, g1, g2, g3, g4, g5⟩ := I3.fpOk (Nat.le_refl _) nC
      exact ⟨mm, hn, fun h'' sb => ⟨.ref D, H5, I7.turned (t' := s6.toks) (fun b o hb e => (sb.2 b hb).trans e) g0 g1 g3 g4 g5, rfl, qq⟩⟩
    · refine thnF (T.item (X.blk s3 H3 scope ce fp) rfl rfl rfl hc j [] s5 _ H5 (fun _ _ => False) I5 (stat I5 n5) st5 go) fun r s6 ⟨u, hr, h6⟩ => ?_
      subst hr
      refine thnF h6 fun _ s7 ⟨x, H7, I7, r7, y7, st7, n7⟩ => ?_
      have I7' := I7.pinned (stat I7 n7) (T.obj _ _ st7)
      refine thnF (pg.run _ s7 _ H7 x u _ I7' r7 (step x H7 y7)) fun _ s8 ⟨σ8, H8, I8, w8, q8⟩ => ?_
      refine thnF (pt.run _ s8 σ8 H8 _ I8 q8) fun b s9 ⟨H9, I9, q9⟩ => ?_
      have fin : ∀ {σ' : L2.St} {s' : Shared} {H' : Hp}, Inv (X.blk s3 H3 scope ce fp) ([] ++ pinsAt fp s7.heap) σ' H' s' → wipe σ' ws = wipe σ8 ws → M H' → ∃ m, m < k ∧ ∃ j H', Inv (X.blk s3 H3 scope ce fp) [] (wipe σ (own.map (·.2))) H' s' ∧ tn j s'.heap ∧ (∀ b ∈ fp, H' b = none) ∧ V j m H' := fun {σ' s' H'} I' hw nx => by
        obtain ⟨k', hk, v'⟩ := hM H' nx
        obtain ⟨l, kp⟩ := wipe_in w8 hw hin
        have pin : ∀ b ∈ fp, ∀ o, s7.heap.get? b = some o → s'.heap.get? b = some o ∧ H' b = none := fun b hb o e => by
          have z := I'.pin (b, o) (List.mem_append_right _ (List.mem_append_right _ (mem_pinsAt hb e)))
          exact ⟨z.1, z.2.1⟩
        refine ⟨k', hk, j + 1, H', (I'.unpinned (pins := [])).weak l kp, T.keep _ _ _ st7 fun b hb o e => (pin b hb o e).1, fun b hb => ?_, v'⟩
        obtain ⟨o, e, _⟩ := T.obj _ _ st7 b hb
        exact (pin b hb o e).2
      cases b with
      | false =>
        simp only [Bool.false_eq_true, if_false] at q9 ⊢
        exact fin I9 rfl q9
      | true =>
        simp only [if_true] at q9 ⊢
        exact thnF (pb _ s9 σ8 H9 M I9 q9) fun _ s10 ⟨σ10, H10, I10, w10, n10⟩ => fin I10 w10 n10
  exact codeAny_compStart_list loop (T.self X.A 0 _ _ _ st4 loop)
end
end DL

/-! DL27: comprehensions of several clauses, over data -/
namespace DL
open PySem PySem.Spec PyProof.Rows L2
abbrev RB := Nv → Mem → (Mem → Prop) → Prop
def lowB (K : PySem.W.Frag) (rb : RB) : TB := fun t H N => ∃ (n : Nv) (m : Mem) (G : Hp) (k : Mem → Prop), RepN K G n t ∧ Sep K G m H ∧ rb n m k ∧ ∀ m' G' H', Same G G' → Sep K G' m' H' → k m' → N H'
def rbEmit (P : Addr) (te : RE) : RB := fun n m k => te xd0 n m fun d m2 => ∃ acc, m2 P = some (.lst acc) ∧ acc.length < sizeLine ∧ k (mset m2 P (.lst (acc ++ [d])))
def goB (T : Tgt) (tt : RT) (rb : RB) (n : Nv) (k : Mem → Prop) : List D → Mem → Prop
  | [], m => k m
  | x :: xs, m => setT T x n fun n2 => tt xd0 n2 m fun b m1 => if b = true then rb n2 m1 (goB T tt rb n k xs) else goB T tt rb n k xs m1
def rbClause (ri : RI) (T : Tgt) (tt : RT) (rb : RB) (vs : List Nat) : RB := fun n m k => ri xd0 n m fun ds m1 => goB T tt rb (wipeN n vs) k ds m1
def rLcG (ri : RI) (T : Tgt) (tt : RT) (rb : Addr → RB) (vs : List Nat) : RE := fun xd n m q => ri xd n m fun ds m1 => ∀ P, m1 P = none → goB T tt (rb P) (wipeN n vs) (fun m2 => ∃ acc, m2 P = some (.lst acc) ∧ q (.lst acc) (mdel m2 P)) ds (mset m1 P (.lst []))
theorem PB.imp {B : Cx} {body : Sem Unit} {vs : List Nat} {t u : TB} (h : PB B body vs t) (i : ∀ σ H N, u σ H N → t σ H N) : PB B body vs u := fun pins s σ H N I q => h pins s σ H N I (i σ H N q)
section
variable {K : PySem.W.Frag}
theorem low_emit {P : Addr} {te : RE} : ∀ σ H N, lowB K (rbEmit P te) σ H N → tEmit P (lowE K W0 te) σ H N := fun σ H N ⟨n, m, G, k, hn, hs, hr, hk⟩ =>
  ⟨n, m, G, xd0, _, hn, hs, link0, hr, fun d m2 v G2 H2 e2 s2 r2 ⟨acc, ma, hz, k2⟩ => by
    obtain ⟨us, h1, r1⟩ := s2.lst ma
    exact ⟨us, h1, by rw [← r1.length]; exact hz, hk _ G2 _ e2 (s2.write ma (.lst (r1.append (.cons r2 .nil)))) k2⟩⟩
/-- the turns of a clause -/
theorem low_turns {J : It} {ds : List D} {T : Tgt} {tt : RT} {rb : RB} {n : Nv} {vs : List Nat} {σ : L2.St} {G : Hp} {k : Mem → Prop} (S : Src K G J ds) (hw : T.within vs = true) (hn : RepN K G n σ) {j : Nat} {H : Hp} {m : Mem} {G2 : Hp} (e2 : Same G G2) (s2 : Sep K G2 m H) (hlt : j < ds.length)
    (h : goB T tt rb (wipeN n vs) k (ds.drop j) m) (x : V) (H' : Hp) (y : J.yld j H x H') {M : Hp → Prop} (hM : ∀ m' G' H', Same G G' → Sep K G' m' H' → goB T tt rb (wipeN n vs) k (ds.drop (j + 1)) m' → M H') :
    gT K T x (wipe σ vs) H' fun σ3 H5 => wipe σ3 vs = wipe σ vs ∧ lowT K W0 tt σ3 H5 fun b H6 => if b = true then lowB K rb σ3 H6 M else M H6 := by
  obtain ⟨G3, d, ed, e3, s3, r3⟩ := S.yld j x H H' m G2 e2 s2 hlt y
  rw [List.drop_eq_getElem_cons hlt] at h
  have ed' : ds[j] = d := by
    rw [List.getElem?_eq_getElem hlt] at ed
    exact Option.some.inj ed
  rw [ed', goB] at h
  have e13 := e2.trans e3
  refine setT_okW s3 r3 (wipe_rep (hn.mono e13) vs) h hw fun n' t' rn ew q => ⟨by rw [ew, wipe_wipe], ?_⟩
  refine ⟨n', m, G3, xd0, _, rn, s3, link0, q, fun b m4 G4 H4 e4 s4 q4 => ?_⟩
  cases b with
  | true => exact ⟨n', m4, G4, _, rn.mono e4, s4, q4, fun m' G' H' e5 s5 k5 => hM m' G' H' (e13.trans (e4.trans e5)) s5 k5⟩
  | false => exact hM m4 G4 H4 (e13.trans e4) s4 q4
theorem low_clause {ri : RI} {T : Tgt} {tt : RT} {rb : RB} {vs : List Nat} (hw : T.within vs = true) : ∀ σ H N, lowB K (rbClause ri T tt rb vs) σ H N → tClause (lowI K W0 ri) (gT K T) (lowT K W0 tt) (lowB K rb) vs σ H N := fun σ H N ⟨n, m, G, k, hn, hs, hr, hk⟩ => by
  refine ⟨n, m, G, xd0, _, hn, hs, link0, hr, fun ds m1 G1 H1 J e1 s1 S k1 => ?_⟩
  refine ⟨fun j z H => z = ds.length - j ∧ j ≤ ds.length ∧ ∃ m G', Same G1 G' ∧ Sep K G' m H ∧ goB T tt rb (wipeN n vs) k (ds.drop j) m, ⟨ds.length, by simp, Nat.zero_le _, m1, G1, Same.refl _, s1, k1⟩, ?_⟩
  rintro j z H2 ⟨rfl, hj, m2, G2, e2, s2, k2⟩
  by_cases hlt : j < ds.length
  · refine .inr ⟨S.go j H2 m2 G2 e2 s2 hlt, fun H' => ∃ m G', Same G1 G' ∧ Sep K G' m H' ∧ goB T tt rb (wipeN n vs) k (ds.drop (j + 1)) m, fun H' h => ⟨ds.length - (j + 1), by omega, rfl, hlt, h⟩, fun x H' y => ?_⟩
    exact low_turns S hw (hn.mono e1) e2 s2 hlt k2 x H' y fun m' G' H' e s k => ⟨m', G', e, s, k⟩
  · have e : j = ds.length := by omega
    subst e
    rw [List.drop_length, goB] at k2
    exact .inl ⟨S.stop H2 m2 G2 e2 s2, hk m2 G2 H2 (e1.trans e2) s2 k2⟩
theorem low_first {W : WX} {ri : RI} {T : Tgt} {tt : RT} {rb : Addr → RB} {vs : List Nat} (hw : T.within vs = true) : ∀ t H Q, lowE K W (rLcG ri T tt rb vs) t H Q → tLcG (lowI K W ri) (gT K T) (lowT K W0 tt) (fun D => lowB K (rb D)) vs t H Q := fun t H Q ⟨n, m, G, xd, q, hn, hs, hl, hr, hq⟩ => by
  refine ⟨n, m, G, xd, _, hn, hs, hl, hr, fun ds m1 G1 H1 J e1 s1 S k P hP => ?_⟩
  refine ⟨fun j z H => z = ds.length - j ∧ j ≤ ds.length ∧ ∃ m G', Same G1 G' ∧ Sep K G' m H ∧ goB T tt (rb P) (wipeN n vs) (fun m2 => ∃ acc, m2 P = some (.lst acc) ∧ q (.lst acc) (mdel m2 P)) (ds.drop j) m, ⟨ds.length, by simp, Nat.zero_le _, _, G1, Same.refl _, s1.alloc hP (.lst .nil), k P (s1.freeM hP)⟩, ?_⟩
  rintro j z H2 ⟨rfl, hj, m2, G2, e2, s2, k2⟩
  by_cases hlt : j < ds.length
  · refine .inr ⟨S.go j H2 m2 G2 e2 s2 hlt, fun H' => ∃ m G', Same G1 G' ∧ Sep K G' m H' ∧ goB T tt (rb P) (wipeN n vs) (fun m2 => ∃ acc, m2 P = some (.lst acc) ∧ q (.lst acc) (mdel m2 P)) (ds.drop (j + 1)) m, fun H' h => ⟨ds.length - (j + 1), by omega, rfl, hlt, h⟩, fun x H' y => ?_⟩
    exact low_turns S hw (hn.mono e1) e2 s2 hlt k2 x H' y fun m' G' H' e s k => ⟨m', G', e, s, k⟩
  · have e : j = ds.length := by omega
    subst e
    rw [List.drop_length, goB] at k2
    exact .inl ⟨S.stop H2 m2 G2 e2 s2, frz_end hq P m2 G2 H2 (e1.trans e2) s2 k2⟩
end
theorem turn_eq {elt i0 t0 i1 t1 i2 t2 : Expr} {f0 f1 f2 : List Expr} {scope : Scope} {pos : Pos} {it acc : Value} {env : Env} : compTurn (.ListComp elt [⟨t0, i0, f0, 0⟩, ⟨t1, i1, f1, 0⟩, ⟨t2, i2, f2, 0⟩] scope pos) 0 it acc env = turnB elt [⟨t0, i0, f0, 0⟩, ⟨t1, i1, f1, 0⟩, ⟨t2, i2, f2, 0⟩] scope pos 0 i0.pos t0 f0 it acc env (stageB elt [⟨t0, i0, f0, 0⟩, ⟨t1, i1, f1, 0⟩, ⟨t2, i2, f2, 0⟩] scope pos 1 i1 acc env) := by
  unfold compTurn turnB stageB
  simp
  rfl
theorem turn_eq1 {elt i0 t0 i1 t1 i2 t2 : Expr} {f0 f1 f2 : List Expr} {scope : Scope} {pos : Pos} {it acc : Value} {env : Env} : compTurn (.ListComp elt [⟨t0, i0, f0, 0⟩, ⟨t1, i1, f1, 0⟩, ⟨t2, i2, f2, 0⟩] scope pos) 1 it acc env = turnB elt [⟨t0, i0, f0, 0⟩, ⟨t1, i1, f1, 0⟩, ⟨t2, i2, f2, 0⟩] scope pos 1 i1.pos t1 f1 it acc env (stageB elt [⟨t0, i0, f0, 0⟩, ⟨t1, i1, f1, 0⟩, ⟨t2, i2, f2, 0⟩] scope pos 2 i2 acc env) := by
  unfold compTurn turnB stageB
  simp
  rfl
/-! ### three clauses -/
section
variable {X : Cx} {W : WX} {elt i0 t0 i1 t1 i2 t2 : Expr} {f0 f1 f2 : List Expr} {scope : Scope} {own : List (Str × Nat)} {pos : Pos} {r0 r1 r2 : RI} {T0 T1 T2 : Tgt} {q0 q1 q2 : RT} {te : RE} {v0 v1 v2 : List Nat}
abbrev Blk (X : Cx) (scope : Scope) (P : Cx → Prop) : Prop := ∀ (s : Shared) (H : Hp) (C : Addr) (cl : List (Str × Addr)) (fp : List Addr), P (X.blk s H scope (compEnvC scope cl C X.env) fp)
theorem de_lc3 (hc : X.calm = true) (hN : X.N.Nodup) (h0 : DI X W t0 i0 r0) (ok : BlkOk X.N X.env.scope scope own) (hv : own.map (·.2) = v0) (w0 : T0.within v0 = true) (w1 : T1.within v1 = true) (w2 : T2.within v2 = true) (in1 : ∀ j ∈ v1, j ∈ v0) (in2 : ∀ j ∈ v2, j ∈ v1)
    (g0 : Blk X scope fun B => PG B t0 (gT X.K T0)) (c0 : Blk X scope fun B => DTs B W0 f0 q0) (h1 : Blk X scope fun B => DI B W0 t1 i1 r1) (g1 : Blk X scope fun B => PG B t1 (gT X.K T1)) (c1 : Blk X scope fun B => DTs B W0 f1 q1)
    (h2 : Blk X scope fun B => DI B W0 t2 i2 r2) (g2 : Blk X scope fun B => PG B t2 (gT X.K T2)) (c2 : Blk X scope fun B => DTs B W0 f2 q2) (he : Blk X scope fun B => DE B W0 elt te) (hs : ∀ x, foldedSetIterable i0 X.env x = pure x := by intro _; rfl)
    (s1 : ∀ env x, foldedSetIterable i1 env x = pure x := by intro _ _; rfl) (s2 : ∀ env x, foldedSetIterable i2 env x = pure x := by intro _ _; rfl) :
    DE X W (.ListComp elt [⟨t0, i0, f0, 0⟩, ⟨t1, i1, f1, 0⟩, ⟨t2, i2, f2, 0⟩] scope pos) (rLcG r0 T0 q0 (fun P => rbClause r1 T1 q1 (rbClause r2 T2 q2 (rbEmit P te) v2) v1) v0) := by
  subst hv
  refine PE.imp (pe_lcG (ws := v1) (body := fun D env => stageB elt [⟨t0, i0, f0, 0⟩, ⟨t1, i1, f1, 0⟩, ⟨t2, i2, f2, 0⟩] scope pos 1 i1 (.ref D) env) hc hN h0 ok (fun D it env => turn_eq) g0 c0 (fun D s H C cl fp => ?_) in1 hs) (low_first w0)
  refine PB.imp (pb_clause (d := 0) (D := D) (ws := v2) (body := stageB elt [⟨t0, i0, f0, 0⟩, ⟨t1, i1, f1, 0⟩, ⟨t2, i2, f2, 0⟩] scope pos 2 i2 (.ref D) (compEnvC scope cl C X.env)) hc rfl (fun it => turn_eq1) rfl (s1 _) (h1 s H C cl fp) (g1 s H C cl fp) (c1 s H C cl fp) ?_ in2) (low_clause w1)
  refine PB.imp (pb_clause (d := 1) (D := D) (ws := []) (body := emitB elt (.ref D) (compEnvC scope cl C X.env)) hc rfl (fun _ => rfl) rfl (s2 _) (h2 s H C cl fp) (g2 s H C cl fp) (c2 s H C cl fp) ?_ (fun _ h => absurd h List.not_mem_nil)) (low_clause w2)
  exact PB.imp (pb_emit rfl (he s H C cl fp)) low_emit
end
end DL

/-! DL28: a named list of one's own that won't change any more behind a statement -/
namespace DL
open PySem PySem.Spec PyProof.Rows L2
theorem RepN.recast {K : PySem.W.Frag} {H : Hp} {d : D} {p : Addr} (hd : Rep K H d (.ref p)) : ∀ {r : Nv} {t : L2.St} {i : Nat}, RepN K H r t → r[i]? = some (some (.ref p)) → RepN K H (r.set i (some d)) t
  | _, _, _, .nil, h => by simp at h
  | _, _, 0, .yes a r, e => by
    simp at e
    subst e
    cases a
    exact .yes hd r
  | _, _, 0, .no r, e => by simp at e
  | _, _, i + 1, .yes a r, e => by
    simp at e
    exact .yes a (RepN.recast hd r e)
  | _, _, i + 1, .no r, e => by
    simp at e
    exact .no (RepN.recast hd r e)
def rFzS (i : Nat) (r : RS) : RS := fun xd e n m => r xd { e with nx := fun n1 m1 => ∃ p ds, n1[i]? = some (some (.ref p)) ∧ m1 p = some (.lst ds) ∧ e.nx (n1.set i (some (.lst ds))) (mdel m1 p) } n m
theorem ds_fz {X : Cx} {W : WX} {s : Stmt} {r : RS} {i : Nat} (h : DS X W s r) : DS X W s (rFzS i r) := PS.imp h fun D t H ⟨n, m, G, xd, e, hn, hs, hl, hr, L⟩ =>
  ⟨n, m, G, xd, _, hn, hs, hl, hr, ⟨fun n1 m1 t1 G1 H1 e1 s1 r1 ⟨p, ds, a, b, k⟩ => by
    obtain ⟨vs, h1, rv⟩ := s1.lst b
    obtain ⟨s2, e2⟩ := s1.freeze b h1
    exact L.nx _ _ _ _ H1 (e1.trans e2) s2 ((r1.mono e2).recast (.lst upd_same (rv.mono e2)) a) k, L.rt, L.bk, L.ct⟩⟩
end DL

/-! DL29: list(d) of a dict whose keys are tuples; defs that call themselves -/
namespace DL
open PySem PySem.Spec PyProof.Rows L2
section
variable {X : Cx} {W : WX} {pos : Pos}
theorem RepT.keys {K : PySem.W.Frag} {G : Hp} : ∀ {kvs : List (D × D)} {xs : List (NestedKey × Addr × V)}, RepT K G kvs xs → Reps K G (kvs.map (·.1)) (xs.map fun x => V.ref x.2.1)
  | _, _, .nil => .nil
  | _, _, .cons _ _ r _ t => .cons r t.keys
theorem vals_keys {w : World} : ∀ (xs : List (NestedKey × Addr × V)) (us ks : List Value), xs.length = us.length → ks.length = xs.length → (∀ (j : Nat) v, ks[j]? = some v → ∃ e : DictEntry, ((xs.zip us).map fun z => (⟨z.1.1.hash w, .ref z.1.2.1, z.2⟩ : DictEntry))[j]? = some e ∧ v = e.key) → Vals (xs.map fun x => V.ref x.2.1) ks
  | [], _, [], _, _, _ => .nil
  | [], _, _ :: _, _, h, _ => by cases h
  | _ :: _, _, [], _, h, _ => by cases h
  | _ :: _, [], _, h, _, _ => by cases h
  | x :: xs, u :: us, k :: ks, h1, h2, h => by
    refine .cons ?_ (vals_keys (w := w) xs us ks (by simpa using h1) (by simpa using h2) fun j v e => ?_)
    · obtain ⟨e, e1, e2⟩ := h 0 k rfl
      simp at e1
      subst e1
      exact e2
    · obtain ⟨e', e1, e2⟩ := h (j + 1) v (by simpa using e)
      exact ⟨e', by simpa using e1, e2⟩
theorem call_list_no (hc : X.calm = true) : CallR X (.type "list") (fun vs H Q => ∃ (p : Addr) (xs : List (NestedKey × Addr × V)), vs = [.ref p] ∧ H p = some (dNo p xs) ∧ (p == sysModules) = false ∧ xs.length ≤ sizeLine ∧ ∀ l, H l = none → Q (.ref l) (upd H l (.lst (xs.map fun x => V.ref x.2.1)))) := by
  intro pins s σ H xs us Q I r h
  obtain ⟨p, xs, rfl, hp, z, hl, q⟩ := h
  obtain ⟨u, rfl, rx⟩ := vals1 r
  obtain rfl : u = .ref p := rx
  obtain ⟨⟨w, o, es, ep, us, hv, ho, hx, hd, he⟩, _, _⟩ := I.hok p _ hp
  have hlen : xs.length = us.length := by rw [← hv.length, List.length_map]
  have hes : es.size = xs.length := by
    rw [← Array.length_toList, he, List.length_map, List.length_zip]
    omega
  refine PySem.W.kdl_call (KdlSrc.rawDict (prog := X.prog) (w := X.w) (es := es) (ep := ep) z) (I.ok.hd hc) ⟨o, ho, hx, hd⟩ (by omega) fun h' tk acc c hk hS hacc => ?_
  have hn : H s.heap.objs.size = none := I.hok.fresh (Nat.le_refl _)
  have hv2 : Vals (xs.map fun x => V.ref x.2.1) acc.toList := by
    refine vals_keys (w := w) xs us acc.toList hlen (by rw [Array.length_toList, hacc.1, hes]) fun j v e => ?_
    obtain ⟨hi, e2⟩ := hacc.2 j v (by rw [← Array.getElem?_toList]; exact e)
    refine ⟨es[j], ?_, e2⟩
    rw [← he, Array.getElem?_toList]
    exact Array.getElem?_eq_getElem hi
  have new : ObjOk X.prog X.w (upd H s.heap.objs.size (.lst (xs.map fun x => V.ref x.2.1))) h' s.heap.objs.size (.lst (xs.map fun x => V.ref x.2.1)) := by
    refine ⟨?_, acc.toList, c, hv2, ?_⟩
    · rw [List.length_map]
      exact hl
    · simpa using hS
  exact ⟨.ref s.heap.objs.size, _, I.laid hk (Nat.le_refl _) new, rfl, q _ hn⟩
/-- list(d) -/
def gKeysT : List D → Mem → QD → Prop
  | [x], m, q => ∃ kvs, dctOf x m = some (true, kvs) ∧ q (.lst (kvs.map (·.1))) m
  | _, _, _ => False
theorem cd_keysT (hc : X.calm = true) : CallR X (.type "list") (lowC X.K gKeysT) := crN (call_list_no hc) fun H G m ds vs q Q hr hs hg hq => by
  unfold gKeysT at hg
  split at hg
  · obtain ⟨kvs, e, k⟩ := hg
    cases hr with
    | cons h r =>
      cases r
      obtain ⟨p, xs, rfl, hp, z, l, nd, rt⟩ := dctT_at hs h e
      refine ⟨p, xs, rfl, hp, z, l, fun l hl => ?_⟩
      obtain ⟨s2, e2⟩ := hs.laid hl (.lst (xs.map fun x => V.ref x.2.1))
      exact hq _ m _ _ _ e2 s2 (.lst upd_same (rt.keys.mono e2)) k
  · exact False.elim hg
/-- what no call can be asked for -/
theorem cal_none {P : Program} {w : World} {K : PySem.W.Frag} {mg : Str → Option Value} {base : Heap} {k : Nat} {x : Str} {ps : List Str} {f : Addr} {fd : FuncData} (b : Binds K fd ps []) (h : mg x = some (.ref f)) (kp : PySem.W.keepIn K (.ref f) = true) : CalD P w K mg base k x ps (fun _ _ _ _ => False) :=
  ⟨f, fd, ⟨fun vs H Q E ⟨_, _, _, _, _, _, _, h, _⟩ => h.elim, fun A outer s H args us vs Q E _ _ _ _ ⟨_, _, _, _, _, _, _, h, _⟩ => h.elim⟩, b, h, kp⟩
end

/-! ### sorting: the order in which things came is of no matter -/
open PySem.W in
mutual
theorem toks_pre : ∀ (x y : PyData) (a b : List (Int ⊕ List Nat)), alike x y = true → keyToks x ++ a = keyToks y ++ b → x = y ∧ a = b
  | .none, .none, _, _, _, h => ⟨rfl, by simpa [keyToks] using h⟩
  | .bool p, .bool r, _, _, _, h => by
    cases p <;> cases r <;> simp [keyToks] at h ⊢ <;> exact h
  | .int i, .int j, _, _, _, h => by simpa [keyToks] using h
  | .str p, .str r, _, _, _, h => by
    simp only [keyToks, List.cons_append, List.nil_append, List.cons.injEq, Sum.inr.injEq] at h
    refine ⟨?_, h.2⟩
    obtain ⟨p⟩ := p
    obtain ⟨r⟩ := r
    rw [show p = r from Array.toList_inj.mp h.1]
  | .list xs, .list ys, a, b, h, e => by
    rw [alike] at h
    rw [keyToks, keyToks] at e
    obtain ⟨e1, e2⟩ := toks_preAll xs ys a b h e
    exact ⟨by rw [e1], e2⟩
  | .tuple xs, .tuple ys, a, b, h, e => by
    rw [alike] at h
    rw [keyToks, keyToks] at e
    obtain ⟨e1, e2⟩ := toks_preAll xs ys a b h e
    exact ⟨by rw [e1], e2⟩
  | .dict _, y, _, _, h, _ => by cases y <;> simp [alike] at h
  | .none, .bool _, _, _, h, _ => by simp [alike] at h
  | .none, .int _, _, _, h, _ => by simp [alike] at h
  | .none, .str _, _, _, h, _ => by simp [alike] at h
  | .none, .list _, _, _, h, _ => by simp [alike] at h
  | .none, .tuple _, _, _, h, _ => by simp [alike] at h
  | .none, .dict _, _, _, h, _ => by simp [alike] at h
  | .bool _, .none, _, _, h, _ => by simp [alike] at h
  | .bool _, .int _, _, _, h, _ => by simp [alike] at h
  | .bool _, .str _, _, _, h, _ => by simp [alike] at h
  | .bool _, .list _, _, _, h, _ => by simp [alike] at h
  | .bool _, .tuple _, _, _, h, _ => by simp [alike] at h
  | .bool _, .dict _, _, _, h, _ => by simp [alike] at h
  | .int _, .none, _, _, h, _ => by simp [alike] at h
  | .int _, .bool _, _, _, h, _ => by simp [alike] at h
  | .int _, .str _, _, _, h, _ => by simp [alike] at h
  | .int _, .list _, _, _, h, _ => by simp [alike] at h
  | .int _, .tuple _, _, _, h, _ => by simp [alike] at h
  | .int _, .dict _, _, _, h, _ => by simp [alike] at h
  | .str _, .none, _, _, h, _ => by simp [alike] at h
  | .str _, .bool _, _, _, h, _ => by simp [alike] at h
  | .str _, .int _, _, _, h, _ => by simp [alike] at h
  | .str _, .list _, _, _, h, _ => by simp [alike] at h
  | .str _, .tuple _, _, _, h, _ => by simp [alike] at h
  | .str _, .dict _, _, _, h, _ => by simp [alike] at h
  | .list _, .none, _, _, h, _ => by simp [alike] at h
  | .list _, .bool _, _, _, h, _ => by simp [alike] at h
  | .list _, .int _, _, _, h, _ => by simp [alike] at h
  | .list _, .str _, _, _, h, _ => by simp [alike] at h
  | .list _, .tuple _, _, _, h, _ => by simp [alike] at h
  | .list _, .dict _, _, _, h, _ => by simp [alike] at h
  | .tuple _, .none, _, _, h, _ => by simp [alike] at h
  | .tuple _, .bool _, _, _, h, _ => by simp [alike] at h
  | .tuple _, .int _, _, _, h, _ => by simp [alike] at h
  | .tuple _, .str _, _, _, h, _ => by simp [alike] at h
  | .tuple _, .list _, _, _, h, _ => by simp [alike] at h
  | .tuple _, .dict _, _, _, h, _ => by simp [alike] at h
theorem toks_preAll : ∀ (xs ys : List PyData) (a b : List (Int ⊕ List Nat)), alikeAll xs ys = true → keyToksAll xs ++ a = keyToksAll ys ++ b → xs = ys ∧ a = b
  | [], [], _, _, _, h => ⟨rfl, by simpa [keyToksAll] using h⟩
  | [], _ :: _, _, _, _, h => by simp [keyToksAll] at h
  | _ :: _, [], _, _, _, h => by simp [keyToksAll] at h
  | x :: xs, y :: ys, a, b, h, e => by
    rw [alikeAll, Bool.and_eq_true] at h
    rw [keyToksAll, keyToksAll, List.cons_append, List.cons_append, List.append_assoc, List.append_assoc] at e
    obtain ⟨e1, e2⟩ := toks_pre x y _ _ h.1 (List.cons.inj e).2
    obtain ⟨e3, e4⟩ := toks_preAll xs ys _ _ h.2 e2
    exact ⟨by rw [e1, e3], e4⟩
end
mutual
theorem toP_inj : ∀ {k : Nat} {x y : D}, fl k x = true → fl k y = true → toP x = toP y → x = y
  | k, .tup ds, .tup es, h1, h2, e => by
    cases k with
    | zero => simp [fl] at h1
    | succ k =>
      rw [fl] at h1 h2
      rw [toP, toP] at e
      rw [toPs_inj h1 h2 (PyData.tuple.inj e)]
  | k, .lst ds, .lst es, h1, h2, e => by
    cases k with
    | zero => simp [fl] at h1
    | succ k =>
      rw [fl] at h1 h2
      rw [toP, toP] at e
      rw [toPs_inj h1 h2 (PyData.list.inj e)]
  | _, .non, y, _, h2, e => by cases y <;> simp_all [toP, fl]
  | _, .bl _, y, _, h2, e => by cases y <;> simp_all [toP, fl]
  | _, .int _, y, _, h2, e => by cases y <;> simp_all [toP, fl]
  | _, .str _, y, _, h2, e => by cases y <;> simp_all [toP, fl]
  | _, .ref _, _, h, _, _ => by simp [fl] at h
  | _, .ty _, _, h, _, _ => by simp [fl] at h
  | _, .scr _, _, h, _, _ => by simp [fl] at h
  | _, .ins _ _, _, h, _, _ => by simp [fl] at h
  | _, .exc _ _ _ _ _, _, h, _, _ => by simp [fl] at h
  | _, .dct _ _, _, h, _, _ => by simp [fl] at h
  | _, .tup _, .non, _, _, e => by simp [toP] at e
  | _, .tup _, .bl _, _, _, e => by simp [toP] at e
  | _, .tup _, .int _, _, _, e => by simp [toP] at e
  | _, .tup _, .str _, _, _, e => by simp [toP] at e
  | _, .tup _, .lst _, _, _, e => by simp [toP] at e
  | _, .tup _, .ref _, _, _, e => by simp [toP] at e
  | _, .tup _, .ty _, _, _, e => by simp [toP] at e
  | _, .tup _, .scr _, _, h, _ => by simp [fl] at h
  | _, .tup _, .ins _ _, _, _, e => by simp [toP] at e
  | _, .tup _, .exc _ _ _ _ _, _, _, e => by simp [toP] at e
  | _, .tup _, .dct _ _, _, _, e => by simp [toP] at e
  | _, .lst _, .non, _, _, e => by simp [toP] at e
  | _, .lst _, .bl _, _, _, e => by simp [toP] at e
  | _, .lst _, .int _, _, _, e => by simp [toP] at e
  | _, .lst _, .str _, _, _, e => by simp [toP] at e
  | _, .lst _, .tup _, _, _, e => by simp [toP] at e
  | _, .lst _, .ref _, _, _, e => by simp [toP] at e
  | _, .lst _, .ty _, _, _, e => by simp [toP] at e
  | _, .lst _, .scr _, _, h, _ => by simp [fl] at h
  | _, .lst _, .ins _ _, _, _, e => by simp [toP] at e
  | _, .lst _, .exc _ _ _ _ _, _, _, e => by simp [toP] at e
  | _, .lst _, .dct _ _, _, _, e => by simp [toP] at e
theorem toPs_inj : ∀ {k : Nat} {xs ys : List D}, fls k xs = true → fls k ys = true → toPs xs = toPs ys → xs = ys
  | _, [], [], _, _, _ => rfl
  | _, [], _ :: _, _, _, e => by simp [toPs] at e
  | _, _ :: _, [], _, _, e => by simp [toPs] at e
  | k, x :: xs, y :: ys, h1, h2, e => by
    rw [fls, Bool.and_eq_true] at h1 h2
    rw [toPs, toPs] at e
    rw [toP_inj h1.1 h2.1 (List.cons.inj e).1, toPs_inj h1.2 h2.2 (List.cons.inj e).2]
end
theorem sortD_mem {a : List D} {d : D} : d ∈ sortD a ↔ d ∈ a := by
  unfold sortD
  exact List.mem_mergeSort
theorem sortD_perm {k : Nat} {a b : List D} (h : a.Perm b) (hf : fls k a = true) (ha : PySem.W.AllAlike (a.map toP)) : sortD a = sortD b := by
  unfold sortD
  have T := PySem.W.sortLe_total (PyProof.Rows.listOrd PyProof.Rows.itemOrd) false fun d : D => PySem.W.keyToks (toP d)
  refine List.Perm.eq_of_pairwise (le := fun x y => PySem.W.dataLe false toP x y = true) ?_ (PySem.W.sort_pairwise T a) (PySem.W.sort_pairwise T b) (((List.mergeSort_perm ..).trans h).trans (List.mergeSort_perm ..).symm)
  intro x y hx hy h1 h2
  have hx : x ∈ a := List.mem_mergeSort.mp hx
  have hy : y ∈ a := h.mem_iff.mpr (List.mem_mergeSort.mp hy)
  have h1 : (!(PyProof.Rows.listOrd PyProof.Rows.itemOrd).blt (PySem.W.keyToks (toP y)) (PySem.W.keyToks (toP x))) = true := h1
  have h2 : (!(PyProof.Rows.listOrd PyProof.Rows.itemOrd).blt (PySem.W.keyToks (toP x)) (PySem.W.keyToks (toP y))) = true := h2
  rw [Bool.not_eq_true'] at h1 h2
  have e := (PyProof.Rows.listOrd PyProof.Rows.itemOrd).total _ _ h2 h1
  have al := ha _ (List.mem_map_of_mem (f := toP) hx) _ (List.mem_map_of_mem (f := toP) hy)
  exact toP_inj (fls_iff.mp hf x hx) (fls_iff.mp hf y hy) (toks_pre _ _ [] [] al (by rw [List.append_nil, List.append_nil]; exact e)).1
end DL

/-! DL30: sorted(d), d.get(k) of dicts whose keys are tuples -/
namespace DL
open PySem PySem.Spec PyProof.Rows L2
section
variable {X : Cx} {W : WX} {pos : Pos}
theorem sortT_go (hc : X.calm = true) (hu : X.A.units + 64 < cLine) {pins : List (Addr × Obj)} {σ : L2.St} {G H : Hp} {m : Mem} {s : Shared} {p : Addr} {kvs : List (D × D)} {xs : List (NestedKey × Addr × V)} {Q : VK} (I : Inv X pins σ H s) (hs : Sep X.K G m H) (hp : H p = some (dNo p xs)) (z : (p == sysModules) = false) (hl : xs.length ≤ sizeLine) (rt : RepT X.K G kvs xs) (f : fls 50 (kvs.map (·.1)) = true) (ha : PySem.W.AllAlike ((kvs.map (·.1)).map toP)) (hk : PySem.W.Sortable ((kvs.map (·.1)).map toP))
    (q : ∀ l zs, H l = none → Reps X.K G (sortD (kvs.map (·.1))) zs → Q (.ref l) (upd H l (.lst zs))) : wpAny (model X.prog X.w) X.A (call (.builtin "sorted") [.ref p]) (EP X pins σ Q) X.xe s := by
  obtain ⟨⟨w, o, es, ep, us, hv, ho, hx, hd, he⟩, _, _⟩ := I.hok p _ hp
  have hlen : xs.length = us.length := by rw [← hv.length, List.length_map]
  have hes : es.size = xs.length := by
    rw [← Array.length_toList, he, List.length_map, List.length_zip]
    omega
  refine Calls.call_function_entry PyProof.Rows.kind_sorted PyProof.Rows.plain_sorted PyProof.Rows.entry_sorted (PyProof.Rows.args_sorted1 _) ?_
  unfold Builtin.«sorted»
  refine wpAny_bind (m := checkCount "sorted" 1 1 _) (wpAny_pure ?_)
  refine wpAny_bind (PySem.W.kdu_collect (A := X.A.in1) (KdlSrc.rawDict (prog := X.prog) (w := X.w) (es := es) (ep := ep) z) (I.ok.hd hc) ⟨o, ho, hx, hd⟩ (by omega) fun h' tk acc hkp hacc => ?_)
  have hv2 : Vals (xs.map fun x => V.ref x.2.1) acc.toList := by
    refine vals_keys (w := w) xs us acc.toList hlen (by rw [Array.length_toList, hacc.1, hes]) fun j v e => ?_
    obtain ⟨hi, e2⟩ := hacc.2 j v (by rw [← Array.getElem?_toList]; exact e)
    refine ⟨es[j], ?_, e2⟩
    rw [← he, Array.getElem?_toList]
    exact Array.getElem?_eq_getElem hi
  have I1 : Inv X pins σ H { s with heap := h', toks := tk } := I.kept hkp
  obtain ⟨h1, h2⟩ := each_reps I1 hs rt.keys hv2 f
  have hal : acc.toList.length ≤ sizeLine := by
    rw [Array.length_toList, hacc.1, hes]
    exact hl
  refine wpAny_bind (wpAny_newList ?_ hal)
  have hoL : (h'.push (seqObj "list" acc.toList.toArray 0)).get? h'.objs.size = some (seqObj "list" acc.toList.toArray 0) := Heap.get?_push_size _ rfl
  show wpAny _ _ _ _ _ { s with heap := h'.push (seqObj "list" acc.toList.toArray 0), toks := tk }
  have old : ∀ b o, h'.get? b = some o → (PySem.W.sortingHeap (h'.push (seqObj "list" acc.toList.toArray 0)) h'.objs.size acc.toList).get? b = some o := fun b o e =>
    PySem.W.sortingHeap_old (Nat.ne_of_lt (Heap.lt_size e)) (Heap.get?_push_of_some _ e)
  have er' : PySem.W.EachIs (fun v b => ∃ as, Reads (PySem.W.sortingHeap (h'.push (seqObj "list" acc.toList.toArray 0)) h'.objs.size acc.toList) v (toP b) as) acc.toList (kvs.map (·.1)) := h2.mono fun _ _ ⟨as, r⟩ => ⟨as, PyProof.Rows.Reads.keeps old r⟩
  refine wpAny_bind (wpAny_holding (wpAny_call_entry PyProof.Rows.slot_list_sort ⟨_, hoL, rfl⟩ PyProof.Rows.entry_list_sort
    (PySem.W.list_sort_vals (κ := PySem.W.dataKind (PySem.W.sortingHeap (h'.push (seqObj "list" acc.toList.toArray 0)) h'.objs.size acc.toList) ((kvs.map (·.1)).map toP)) (s := { s with heap := h'.push (seqObj "list" acc.toList.toArray 0), toks := tk }) hoL
      (PySem.W.SortsAt.data (s := { s with heap := PySem.W.sortingHeap (h'.push (seqObj "list" acc.toList.toArray 0)) h'.objs.size acc.toList, toks := tk }) (PySem.W.each_map (R := fun v d => ∃ as, Reads (PySem.W.sortingHeap (h'.push (seqObj "list" acc.toList.toArray 0)) h'.objs.size acc.toList) v d as) toP er') ha hk (PySem.W.bound_map fun b hb => ?_)) hal ⟨_, rfl, ?_⟩)
    (PyProof.Rows.args_list_sort _)))
  · have := fl_depth (fls_iff.mp f b hb)
    simp only [Around.in1]
    omega
  have eo := PySem.W.sortVals_data false h1 er' ha
  obtain ⟨zs, rz, vz⟩ := each_back eo
  have hlz : zs.length ≤ sizeLine := by
    rw [vz.length, PySem.W.sortVals_length false rfl]
    exact hal
  obtain ⟨e', he'⟩ := PyProof.Rows.sortedHeap_at (vs := acc.toList) (out := (PySem.W.sortVals (PySem.W.dataKind (PySem.W.sortingHeap (h'.push (seqObj "list" acc.toList.toArray 0)) h'.objs.size acc.toList) ((kvs.map (·.1)).map toP)) false acc.toList acc.toList).toArray) hoL
  refine wpAny_pure ⟨_, rfl, .ref h'.objs.size, upd H h'.objs.size (.lst zs), I1.laid (t' := tk) (fun b u e => ?_) (Nat.le_refl _) ⟨hlz, _, e', vz, he'⟩, rfl, q _ zs (I1.hok.fresh (Nat.le_refl _)) rz⟩
  have hb : b < h'.objs.size := Heap.lt_size e
  rw [PyProof.Rows.sortedHeap_old (Nat.ne_of_lt hb) (by rw [PyProof.Rows.size_push']; exact Nat.lt_succ_of_lt hb)]
  exact Heap.get?_push_of_some _ e
/-- sorted(d) -/
def gSortD : List D → Mem → QD → Prop
  | [x], m, q => ∃ kvs, dctOf x m = some (true, kvs) ∧ fls 50 (kvs.map (·.1)) = true ∧ PySem.W.AllAlike ((kvs.map (·.1)).map toP) ∧ PySem.W.Sortable ((kvs.map (·.1)).map toP) ∧ q (.lst (sortD (kvs.map (·.1)))) m
  | _, _, _ => False
def gSortDO : List D → Mem → QD → Prop
  | [x], m, q => ∃ kvs, dctOf x m = some (true, kvs) ∧ fls 50 (kvs.map (·.1)) = true ∧ PySem.W.AllAlike ((kvs.map (·.1)).map toP) ∧ PySem.W.Sortable ((kvs.map (·.1)).map toP) ∧ ∀ p, m p = none → q (.ref p) (mset m p (.lst (sortD (kvs.map (·.1)))))
  | _, _, _ => False
theorem cd_sortD (hc : X.calm = true) (hu : X.A.units + 64 < cLine) : CallR X (.builtin "sorted") (lowC X.K gSortD) := by
  intro pins s σ H xs us Q I r ⟨ds, m, G, q, hr, hs, hg, hq⟩
  unfold gSortD at hg
  split at hg
  · obtain ⟨kvs, e, f, ha, hk, k⟩ := hg
    cases hr with
    | cons h t =>
      cases t
      cases r with
      | cons r1 r2 =>
        cases r2
        obtain ⟨p, xs, rfl, hp, z, l, nd, rt⟩ := dctT_at hs h e
        cases r1
        refine sortT_go hc hu I hs hp z l rt f ha hk fun l zs hl rz => ?_
        obtain ⟨s2, e2⟩ := hs.laid hl (.lst zs)
        exact hq _ m _ _ _ e2 s2 (.lst upd_same (rz.mono e2)) k
  · exact False.elim hg
theorem cd_sortDO (hc : X.calm = true) (hu : X.A.units + 64 < cLine) : CallR X (.builtin "sorted") (lowC X.K gSortDO) := by
  intro pins s σ H xs us Q I r ⟨ds, m, G, q, hr, hs, hg, hq⟩
  unfold gSortDO at hg
  split at hg
  · obtain ⟨kvs, e, f, ha, hk, k⟩ := hg
    cases hr with
    | cons h t =>
      cases t
      cases r with
      | cons r1 r2 =>
        cases r2
        obtain ⟨p, xs, rfl, hp, z, l, nd, rt⟩ := dctT_at hs h e
        cases r1
        refine sortT_go hc hu I hs hp z l rt f ha hk fun l zs hl rz => ?_
        exact hq _ _ _ G _ (Same.refl G) (hs.alloc hl (.lst rz)) (.ref l) (k l (hs.freeM hl))
  · exact False.elim hg
/-! ### d.get(k) -/
def gGetT : D → List D → Mem → QD → Prop := fun x ds m q => ∃ kvs es k, dctOf x m = some (true, kvs) ∧ ds = [.tup es] ∧ nkOf (.tup es) = some k ∧ k.depth ≤ 8 ∧ q ((getT kvs k).getD .non) m
theorem md_getT (hu : X.A.units + 64 < cLine) : MtR X "dict.get" (lowM X.K gGetT) := by
  intro pins s σ H x xs v us Q I rx rv ⟨d, ds, m, G, q, hd, hr, hs, ⟨kvs, es, k, e, eds, ek, hk, kq⟩, hq⟩
  subst eds
  obtain ⟨p, ys, rfl, hp, z, l, nd, rt⟩ := dctT_at hs hd e
  cases rx
  cases hr with
  | cons h r =>
    cases r
    cases h with
    | tup e1 r1 =>
      cases rv with
      | cons rv1 rv2 =>
        cases rv2
        cases rv1
        have rt' := rt.mono hs.sub
        obtain ⟨ws, hv, hD⟩ := keyed_at I hp rt' nd
        have hk' : (nestedKind X.prog X.w).is s.heap k _ := ⟨nk_is I ((Rep.tup e1 r1).mono hs.sub) rfl ek, hk⟩
        refine get_keyed (show X.A.in1.units + 8 < cLine by simp only [Around.in1]; omega) hk' z ⟨_, hD, rfl⟩ ?_
        rw [valueAt_pairsH]
        rcases getT_at (X := X) (H := G) (k := k) rt hv with ⟨h1, h2⟩ | ⟨e', v', a', u', h1, h2, h3, h4⟩
        · rw [h2]
          rw [h1] at kq
          exact ⟨.non, H, I.tok _, rfl, hq.here hs .non kq⟩
        · rw [h2]
          rw [h1] at kq
          exact ⟨v', H, I.tok _, h4, hq _ m _ G H (Same.refl G) hs h3 kq⟩
def rGetT (ro : RE) (ra : RA) : RE := fun xd n m q => ro xd n m fun x m1 => (∃ kvs, dctOf x m1 = some (true, kvs)) ∧ ra xd n m1 fun ds m2 => gGetT x ds m2 q
def tBMT (r : V → List V → Hp → VK → Prop) (to : TE) (t : TA) : TE := fun σ H Q => to σ H fun x H1 => (∃ p xs, x = .ref p ∧ H1 p = some (dNo p xs)) ∧ t σ H1 fun xs H2 => r x xs H2 Q
theorem pe_bmT {o e : Expr} {es : List Expr} {to : TE} {t : TA} {name : Str} {apos cpos : Pos} {id : String} {r : V → List V → Hp → VK → Prop} (slot : Slot "dict" name id) (hty : typeOf (.builtin id) = pure (.type "method_descriptor")) (hm : MtR X id r) (ho : PE X o to) (ha : PA X (e :: es) t)
    (hbase : attributeBase o name X.env (eval o X.env) = eval o X.env := by rfl)
    (hfew : ((backTo cpos (starEach (e :: es) X.env)).all (fun x => !x.1) && (backToKw cpos (keywordEach [] X.env)).all (fun x => x.1.isSome)
      && decide ((e :: es).length + ([] : List Keyword).length + (if ([] : List Keyword).isEmpty then 0 else 1) < 30)) = true := by rfl)
    (hline : (apos.endLine == cpos.line) = true := by rfl) (hs : starEach (e :: es) X.env = (false, eval e X.env) :: starEach es X.env := by rfl) (hplain : (backTo cpos (starEach es X.env)).any (·.1) = false := by rfl) :
    PE X (.Call (.Attribute o name apos) (e :: es) [] cpos) (tBMT r to t) := by
  refine ⟨fun pins s σ H Q I h => ?_⟩
  refine wpAny_Call_method_late hbase hfew hline rfl (thn (ho.run pins s σ H _ I h) fun v s1 ⟨x, H1, I1, r1, ⟨p, xs, ex, hp⟩, q1⟩ => ?_)
  subst ex
  cases r1
  obtain ⟨⟨w, ob, es', ep, us, hv, hob, hx, hd, he⟩, _, _⟩ := I1.hok p _ hp
  refine ⟨"dict", id, PySem.F.plainAttrs_dict, slot, hty, ⟨ob, hob, hx.1⟩, fun a e => ?_, ?_⟩
  · cases e
    exact ⟨ob, hob, hx.2.1⟩
  have hA := ha.run cpos pins s1 σ H1 _ I1 q1
  rw [hs] at hA ⊢
  refine Calls.callWith_builtin (by show (false || (backTo cpos (starEach es X.env)).any (·.1)) = false; rw [hplain] <;> rfl) (Calls.evalArgs_plain ?_)
  exact thn hA fun us s2 ⟨vs, H2, I2, r2, q2⟩ => hm pins s2 σ H2 (.ref p) vs (.ref p) us Q I2 rfl r2 q2
theorem de_getT {o e : Expr} {es : List Expr} {ro : RE} {ra : RA} {apos cpos : Pos} (hu : X.A.units + 64 < cLine) (ho : DE X W o ro) (ha : DA X W (e :: es) ra)
    (hbase : attributeBase o "get" X.env (eval o X.env) = eval o X.env := by rfl)
    (hfew : ((backTo cpos (starEach (e :: es) X.env)).all (fun x => !x.1) && (backToKw cpos (keywordEach [] X.env)).all (fun x => x.1.isSome)
      && decide ((e :: es).length + ([] : List Keyword).length + (if ([] : List Keyword).isEmpty then 0 else 1) < 30)) = true := by rfl)
    (hline : (apos.endLine == cpos.line) = true := by rfl) (hs : starEach (e :: es) X.env = (false, eval e X.env) :: starEach es X.env := by rfl) (hplain : (backTo cpos (starEach es X.env)).any (·.1) = false := by rfl) :
    DE X W (.Call (.Attribute o "get" apos) (e :: es) [] cpos) (rGetT ro ra) :=
  PE.imp (pe_bmT PySem.F.slot_dict_get PySem.F.type_dict_get (md_getT hu) ho ha hbase hfew hline hs hplain) fun t H Q ⟨n, m, G, xd, q, hn, hs, hl, hr, hq⟩ =>
    ⟨n, m, G, xd, _, hn, hs, hl, hr, fun d m1 v G1 H1 e1 s1 r1 ⟨⟨kvs, ed⟩, q1⟩ => ⟨by
      obtain ⟨p, xs, rfl, hp, _⟩ := dctT_at s1 r1 ed
      exact ⟨p, xs, rfl, hp⟩, n, m1, G1, xd, _, hn.mono e1, s1, hl.mono e1, q1, fun ds m2 vs G2 H2 e2 s2 r2 q2 => ⟨d, ds, m2, G2, q, r1.mono e2, r2, s2, q2, fun d m' v G' H' e3 s3 r3 q3 => hq d m' v G' H' (e1.trans (e2.trans e3)) s3 r3 q3⟩⟩⟩
end
end DL

namespace DL
open PySem PySem.Spec PyProof.Rows L2
/-! the law's bag and what it draws -/
local macro_rules | `(tactic| walk_at "rd") => `(tactic| simp only [rSetT, rDct0T, rDct1T, rDc, rLcG, rbClause, rbEmit, rZip2, rZip3, rCallO, gLenD, gLenO, gMaxL, gSortL, gSortLO, rFld, rSetF, rMeth, rMake, rFrzI, rProp, rIsC, rRev, rAllK, rLcK, rLcKO, ew0, ew1, ew2, ew3, ew4, ew5, ew6, rRaise, rTry, xCls, enO, setO, rXf, rIsX, Option.elim_some, Option.elim_none, rSeq, rSet, rAsg, rRet, rRetN, rDrop, rIf, rSkip, rVar, rC, rOp, rUn, rTst, rTru, rNot, rAnd, rOr, rAndV, rOrV, rNotV, rIfE, rChain, rCons, rNil, rTup, rLst, rLstO, rCB, rLM, rSM, rSl, rPart, rNoPart, rAll, rRng1, rRng2, rFor, rCall, rAug, rSetIx, rLenSet, rFmt, rJoined, rJs, rLc, rLcO, rFrz, setAll, rYes, rNever, wipeN, nvs, enD, turnD, gNe, gLt, gLe, gGt, gGe, gIn, gNotIn, gIs, gIsNot, gMod, gFdiv, gPow, gAppend, gPop, gPopAt, gClear, gReverse, gExtend, gJoin, gSplit, nm_T, tp_T, at_0, at_1, at_2, at_3, at_4, at_5, at_6, at_7, ix_0, ix_1, ix_2, ix_3, ix_4, List.map_cons, List.map_nil, List.length_cons, List.length_nil, List.replicate, List.cons_append, List.nil_append, List.getElem?_cons_zero, List.getElem?_cons_succ, List.set_cons_zero, List.set_cons_succ, Option.some.injEq, exists_eq_left', exists_eq_left, exists_and_left, D.int.injEq, D.str.injEq, D.bl.injEq, D.ref.injEq, D.tup.injEq, D.lst.injEq, MO.lst.injEq, List.cons.injEq, and_true, true_and, if_true, if_false, Bool.false_eq_true, Nat.reduceSub, Nat.reduceAdd, reduceIte, reduceCtorEq, mset_same, mset_mset, Bool.not_true, Bool.not_false, imp_self, implies_true, not_false_eq_true, forall_const, ev0, ev1, ev2, ev3, ev4, ev5, ev6, ev7, ev8, ev9, ev10, ev11, ev12, ev13, ev14, ev15, ev16, ev17, ev18, ev19, ev20, ev21, ev22, ev23, ev24, ev25, ev26, ev27, ev28, ev29, ev30, ev31, ev32, ev33, ev34, ev35, ev36, ev37, ev38, ev39, ev40, ev41, ev42, ev43, ev44, ev45, ev46, ev47, ev48, ev49, ev50, ev51, ev52, ev53, ev54, ev55, ev56, ev57, ev58, ev59, ev60, ev61, ev62, ev63, ev64, ev65, ev66, ev67, ev68, ev69, ev70, ev71, ev72, ev73, ev74, ev75, ev76, ev77, ev78, ev79, ev80, ev81, ev82, ev83, ev84, ev85, ev86, ev87, ev88, ev89, ev90, ev91, ev92, ev93, ev94, ev95, ev96, ev97, ev98, ev99, ev100, ev101, ev102, ev103, ev104, ev105, ev106, ev107, ev108, ev109, ev110, ev111, ev112, ev113, ev114, ev115, ev116, ev117, ev118, ev119, ev120, ev121, ev122, ev123, ev124, ev125, ev126, ev127, ev128, ev129, ev130, ev131, ev132, ev133, ev134, ev135, ev136, ev137, ev138, ev139, ev140, ev141, ev142, ev143, ev144, ev145, ev146, ev147, ev148, ev149, ev150, ev151, ev152, ev153, ev154, ev155, ev156, ev157, ev158, ev159, ev160, ev161, ev162])
local macro_rules | `(tactic| walk_at "rq") => `(tactic| simp only [rSetT, rDct0T, rDct1T, rDc, rLcG, rbClause, rbEmit, rZip2, rZip3, rCallO, gLenD, gLenO, gMaxL, gSortL, gSortLO, rFld, rSetF, rMeth, rMake, rFrzI, rProp, rIsC, rRev, rAllK, rLcK, rLcKO, ew0, ew1, ew2, ew3, ew4, ew5, ew6, rRaise, rTry, xCls, enO, setO, rXf, rIsX, Option.elim_some, Option.elim_none, rSeq, rSet, rAsg, rRet, rRetN, rDrop, rIf, rSkip, rVar, rC, rOp, rUn, rTst, rTru, rNot, rAnd, rOr, rAndV, rOrV, rNotV, rIfE, rChain, rCons, rNil, rTup, rLst, rLstO, rCB, rLM, rSM, rSl, rPart, rNoPart, rAll, rRng1, rRng2, rFor, rCall, rAug, rSetIx, rLenSet, rFmt, rJoined, rJs, rLc, rLcO, rFrz, setAll, rYes, rNever, wipeN, nvs, enD, turnD, gNe, gLt, gLe, gGt, gGe, gIn, gNotIn, gIs, gIsNot, gMod, gFdiv, gPow, gAppend, gPop, gPopAt, gClear, gReverse, gExtend, gJoin, gSplit, nm_T, tp_T, at_0, at_1, at_2, at_3, at_4, at_5, at_6, at_7, ix_0, ix_1, ix_2, ix_3, ix_4, List.map_cons, List.map_nil, List.length_cons, List.length_nil, List.replicate, List.cons_append, List.nil_append, List.getElem?_cons_zero, List.getElem?_cons_succ, List.set_cons_zero, List.set_cons_succ, Option.some.injEq, exists_eq_left', exists_eq_left, exists_and_left, D.int.injEq, D.str.injEq, D.bl.injEq, D.ref.injEq, D.tup.injEq, D.lst.injEq, MO.lst.injEq, List.cons.injEq, and_true, true_and, if_true, if_false, Bool.false_eq_true, Nat.reduceSub, Nat.reduceAdd, reduceIte, reduceCtorEq, mset_same, mset_mset, Bool.not_true, Bool.not_false, imp_self, implies_true, not_false_eq_true, forall_const, ev0, ev1, ev2, ev3, ev4, ev5, ev6, ev7, ev8, ev9, ev10, ev11, ev12, ev13, ev14, ev15, ev16, ev17, ev18, ev19, ev20, ev21, ev22, ev23, ev24, ev25, ev26, ev27, ev28, ev29, ev30, ev31, ev32, ev33, ev34, ev35, ev36, ev37, ev38, ev39, ev40, ev41, ev42, ev43, ev44, ev45, ev46, ev47, ev48, ev49, ev50, ev51, ev52, ev53, ev54, ev55, ev56, ev57, ev58, ev59, ev60, ev61, ev62, ev63, ev64, ev65, ev66, ev67, ev68, ev69, ev70, ev71, ev72, ev73, ev74, ev75, ev76, ev77, ev78, ev79, ev80, ev81, ev82, ev83, ev84, ev85, ev86, ev87, ev88, ev89, ev90, ev91, ev92, ev93, ev94, ev95, ev96, ev97, ev98, ev99, ev100, ev101, ev102, ev103, ev104, ev105, ev106, ev107, ev108, ev109, ev110, ev111, ev112, ev113, ev114, ev115, ev116, ev117, ev118, ev119, ev120, ev121, ev122, ev123, ev124, ev125, ev126, ev127, ev128, ev129, ev130, ev131, ev132, ev133, ev134, ev135, ev136, ev137, ev138, ev139, ev140, ev141, ev142, ev143, ev144, ev145, ev146, ev147, ev148, ev149, ev150, ev151, ev152, ev153, ev154, ev155, ev156, ev157, ev158, ev159, ev160, ev161, ev162, Int.reduceEq, Int.reduceNe, Int.reduceLT, Int.reduceLE, Int.reduceNeg, decide_true, decide_false])
def N__law_bag : List Str := ["_law_script"]
def rd__law_bag : RS := rRet (rLstO (rCons (rCB gListA (rCons (rVar 0) (rNil))) (rCons (rC (.int 0)) (rCons (rC (.int 0)) (rCons (rC (.int 17)) (rCons (rC (.int 0)) (rNil)))))))

def N__law_draw : List Str := ["_law_bag_here", "_law_size", "_law_cell", "_law_digit", "_law_mixed_here"]
def rd__law_draw : RS := rSeq (rSetIx (rVar 0) (rC (.int 4)) (rOp gAdd (rOp gIx (rVar 0) (rC (.int 4))) (rC (.int 1))))
  (rSeq (rIf (rAnd (rTst (rOp gEq (rOp gIx (rVar 0) (rC (.int 2))) (rC (.int 0)))) (rTst (rOp gLt (rOp gIx (rVar 0) (rC (.int 1))) (rCB gLen (rCons (rOp gIx (rVar 0) (rC (.int 0))) (rNil)))))) (rSeq (rSet (rOp gIx (rOp gIx (rVar 0) (rC (.int 0))) (rOp gIx (rVar 0) (rC (.int 1)))) 2)
  (rSeq (rSetIx (rVar 0) (rC (.int 1)) (rOp gAdd (rOp gIx (rVar 0) (rC (.int 1))) (rC (.int 1))))
  (rSeq (rSetIx (rVar 0) (rC (.int 2)) (rOp gMul (rOp gAdd (rOp gMul (rC (.int 2)) (rCB gAbs (rCons (rVar 2) (rNil)))) (rCB gInt (rCons (rOp gLt (rVar 2) (rC (.int 0))) (rNil)))) (rCB gInt (rCons (rOp gGe (rCB gAbs (rCons (rVar 2) (rNil))) (rOp gPow (rC (.int 10)) (rC (.int 18)))) (rNil)))))
  (rSetIx (rVar 0) (rC (.int 3)) (rOp gMod (rCB gInt (rCons (rOp gAdd (rOp gAdd (rOp gMul (rOp gIx (rVar 0) (rC (.int 3))) (rC (.int 48271))) (rOp gMul (rVar 2) (rC (.int 69621)))) (rC (.int 11))) (rNil))) (rC (.int 2147483647))))))) (rSkip))
  (rSeq (rSet (rOp gMod (rCB gInt (rCons (rOp gIx (rVar 0) (rC (.int 2))) (rNil))) (rVar 1)) 3)
  (rSeq (rIf (rTst (rOp gGt (rOp gIx (rVar 0) (rC (.int 2))) (rC (.int 0)))) (rSeq (rSetIx (rVar 0) (rC (.int 2)) (rOp gFdiv (rOp gIx (rVar 0) (rC (.int 2))) (rVar 1)))
  (rRet (rVar 3))) (rSkip))
  (rSeq (rSet (rOp gMod (rCB gInt (rCons (rOp gAdd (rOp gIx (rVar 0) (rC (.int 3))) (rOp gMul (rOp gIx (rVar 0) (rC (.int 4))) (rC (.int 40692)))) (rNil))) (rC (.int 2147483647))) 4)
  (rSeq (rSet (rOp gMod (rCB gInt (rCons (rOp gAdd (rOp gAdd (rOp gPow (rVar 4) (rC (.int 3))) (rOp gMul (rOp gIx (rVar 0) (rC (.int 4))) (rC (.int 16807)))) (rC (.int 7))) (rNil))) (rC (.int 2147483629))) 4)
  (rRet (rOp gMod (rOp gFdiv (rOp gMod (rCB gInt (rCons (rOp gPow (rVar 4) (rC (.int 2))) (rNil))) (rC (.int 2147483587))) (rC (.int 8))) (rVar 1))))))))

/-- what a bag holds: the script, a place in it, a number to be used up, a seed, a count -/
def Bag (ds : List D) : Prop := ∃ (ns : List Int) (i big seed cnt : Int), ds = [.lst (ns.map D.int), .int i, .int big, .int seed, .int cnt] ∧ 0 ≤ i ∧ 0 ≤ big ∧ 0 ≤ seed
def sp__law_bag : SpD := fun ds m q _ => ∃ ns, ds = [.scr ns] ∧ ∀ b, m b = none → q (.ref b) (mset m b (.inv Bag))
theorem rl__law_bag : ∀ ds m q xf, sp__law_bag ds m q xf → ds.length = ["_law_script"].length := fun ds m q xf ⟨d, e, _⟩ => by rw [e]; rfl
theorem rp__law_bag : ∀ ds m q xf, sp__law_bag ds m q xf → rd__law_bag (xdD xf) (enD q) (nvs N__law_bag ds) m := by
  rintro ds m q xf ⟨ns, rfl, k⟩
  unfold rd__law_bag N__law_bag
  walk_at "rd"
  refine ⟨by decide, fun p hp => ⟨_, fun b z e => ?_, k p hp⟩⟩
  by_cases hb : b = p
  · subst hb
    rw [mset_same] at e ⊢
    cases e
    exact ⟨_, rfl, .inv ⟨ns, 0, 0, 17, 0, rfl, by omega, by omega, by omega⟩⟩
  · rw [mset_ne hb] at e ⊢
    exact ⟨z, e, .refl z⟩
def sp__law_draw : SpD := fun ds m q _ => ∃ b size, ds = [.ref b, .int size] ∧ m b = some (.inv Bag) ∧ 0 < size ∧ size < 1073741824 ∧ ∀ r : Int, 0 ≤ r → r < size → q (.int r) m
theorem rl__law_draw : ∀ ds m q xf, sp__law_draw ds m q xf → ds.length = ["_law_bag_here", "_law_size"].length := fun ds m q xf ⟨b, s, e, _⟩ => by rw [e]; rfl
theorem atI_of {α : Type} {xs : List α} {i : Int} (h0 : 0 ≤ i) (h1 : i < xs.length) : atI xs i = some (xs[i.toNat]'(by omega)) := by
  unfold atI ixN
  rw [if_pos h0, if_pos h1]
  show xs[i.toNat]? = _
  rw [List.getElem?_eq_getElem]
theorem bag_back {m : Mem} {b : Addr} {ds : List D} (hb : m b = some (.inv Bag)) (h : Bag ds) : Sub m (mset m b (.lst ds)) := Sub.set (Sub.refl m) hb (.inv h)
theorem cmul_r {i j : Int} (h1 : -(2 ^ 64) < j) (h2 : j < 2 ^ 64) : CMul i j := .inr ⟨h1, h2⟩
theorem cmul_l {i j : Int} (h1 : -(2 ^ 64) < i) (h2 : i < 2 ^ 64) : CMul i j := .inl ⟨h1, h2⟩
theorem cpow_mod {x n k : Int} (h : 0 < n) (hn : n < 2 ^ 62) (h0 : 0 ≤ k) (h1 : k ≤ 1000000) : CPow (x % n) k := by
  have e1 := Int.emod_nonneg x (show n ≠ 0 by omega)
  have e2 := Int.emod_lt_of_pos x h
  exact ⟨h0, h1, by omega⟩
/-- the last part of a draw -/
theorem draw_tail {m : Mem} {q : QD} {b : Addr} {size : Int} {ns : List Int} {i big seed cnt : Int} (hb : m b = some (.inv Bag)) (h0 : 0 < size) (h1 : size < 1073741824) (k : ∀ (r : Int), 0 ≤ r → r < size → q (.int r) m) (hi : 0 ≤ i) (hbig : 0 ≤ big) (hseed : 0 ≤ seed) :
    0 < size ∧
      if decide (0 < big) = true then
        CDiv big size ∧ rtD q (D.int (big % size)) (mset m b (MO.lst [D.lst (List.map D.int ns), D.int i, D.int (big / size), D.int seed, D.int (cnt + 1)]))
      else
        CMul (cnt + 1) 40692 ∧ (0 : Int) < 2147483647 ∧ CPow ((seed + (cnt + 1) * 40692) % 2147483647) 3 ∧ CMul (cnt + 1) 16807 ∧ (0 : Int) < 2147483629 ∧
          CPow ((((seed + (cnt + 1) * 40692) % 2147483647) ^ Int.toNat 3 + (cnt + 1) * 16807 + 7) % 2147483629) 2 ∧ (0 : Int) < 2147483587 ∧
            CDiv (((((seed + (cnt + 1) * 40692) % 2147483647) ^ Int.toNat 3 + (cnt + 1) * 16807 + 7) % 2147483629) ^ Int.toNat 2 % 2147483587) 8 ∧ 0 < size ∧
              rtD q (D.int (((((seed + (cnt + 1) * 40692) % 2147483647) ^ Int.toNat 3 + (cnt + 1) * 16807 + 7) % 2147483629) ^ Int.toNat 2 % 2147483587 / 8 % size))
                (mset m b (MO.lst [D.lst (List.map D.int ns), D.int i, D.int big, D.int seed, D.int (cnt + 1)])) := by
  refine ⟨h0, ite2 (fun h => ⟨⟨h0, h1⟩, rt_sub (bag_back hb ⟨ns, i, big / size, seed, cnt + 1, rfl, hi, Int.ediv_nonneg hbig (by omega), hseed⟩) (k _ (Int.emod_nonneg _ (by omega)) (Int.emod_lt_of_pos _ h0))⟩) fun h => ?_⟩
  refine ⟨cmul_r (by decide) (by decide), by decide, cpow_mod (by decide) (by decide) (by decide) (by decide), cmul_r (by decide) (by decide), by decide, cpow_mod (by decide) (by decide) (by decide) (by decide), by decide, ⟨by decide, by decide⟩, h0, ?_⟩
  exact rt_sub (bag_back hb ⟨ns, i, big, seed, cnt + 1, rfl, hi, hbig, hseed⟩) (k _ (Int.emod_nonneg _ (by omega)) (Int.emod_lt_of_pos _ h0))
theorem rp__law_draw : ∀ ds m q xf, sp__law_draw ds m q xf → opn m fun m' => rd__law_draw (xdD xf) (enD q) (nvs N__law_draw ds) m' := by
  rintro ds m q xf ⟨b, size, rfl, hb, h0, h1, k⟩
  refine ⟨b, Bag, hb, ?_⟩
  rintro ds ⟨ns, i, big, seed, cnt, rfl, hi, hbig, hseed⟩
  unfold rd__law_draw N__law_draw
  walk_at "rd"
  refine ite2 (fun _ => ite2 (fun h => ?_) fun _ => draw_tail hb h0 h1 k hi hbig hseed) fun _ => draw_tail hb h0 h1 k hi hbig hseed
  have hlt : i < ((ns.map D.int).length : Int) := of_decide_eq_true h
  rw [atI_of hi hlt]
  have e : (ns.map D.int)[i.toNat]'(by omega) = .int (ns[i.toNat]'(by simpa using (show i.toNat < (ns.map D.int).length by omega))) := by simp
  rw [e]
  generalize (ns[i.toNat]'_) = cell
  walk_at "rd"
  refine ⟨cmul_l (by decide) (by decide), ⟨by decide, by decide, by decide⟩, ?_, cmul_r (by decide) (by decide), cmul_r (by decide) (by decide), by decide, ?_⟩
  · refine cmul_r ?_ ?_ <;> (repeat' split) <;> decide
  · refine draw_tail hb h0 h1 k (by omega) ?_ (Int.emod_nonneg _ (by decide))
    refine Int.mul_nonneg ?_ ?_
    · (repeat' split) <;> omega
    · (repeat' split) <;> decide
end DL

namespace DL
open PySem PySem.Spec PyProof.Rows L2
/-! a drawn order -/
local macro_rules | `(tactic| walk_at "rd") => `(tactic| simp only [rSetT, rDct0T, rDct1T, rDc, rLcG, rbClause, rbEmit, rZip2, rZip3, rCallO, gLenD, gLenO, gMaxL, gSortL, gSortLO, rFld, rSetF, rMeth, rMake, rFrzI, rProp, rIsC, rRev, rAllK, rLcK, rLcKO, ew0, ew1, ew2, ew3, ew4, ew5, ew6, rRaise, rTry, xCls, enO, setO, rXf, rIsX, Option.elim_some, Option.elim_none, rSeq, rSet, rAsg, rRet, rRetN, rDrop, rIf, rSkip, rVar, rC, rOp, rUn, rTst, rTru, rNot, rAnd, rOr, rAndV, rOrV, rNotV, rIfE, rChain, rCons, rNil, rTup, rLst, rLstO, rCB, rLM, rSM, rSl, rPart, rNoPart, rAll, rRng1, rRng2, rFor, rCall, rAug, rSetIx, rLenSet, rFmt, rJoined, rJs, rLc, rLcO, rFrz, setAll, rYes, rNever, wipeN, nvs, enD, turnD, gNe, gLt, gLe, gGt, gGe, gIn, gNotIn, gIs, gIsNot, gMod, gFdiv, gPow, gAppend, gPop, gPopAt, gClear, gReverse, gExtend, gJoin, gSplit, nm_T, tp_T, at_0, at_1, at_2, at_3, at_4, at_5, at_6, at_7, ix_0, ix_1, ix_2, ix_3, ix_4, List.map_cons, List.map_nil, List.length_cons, List.length_nil, List.replicate, List.cons_append, List.nil_append, List.getElem?_cons_zero, List.getElem?_cons_succ, List.set_cons_zero, List.set_cons_succ, Option.some.injEq, exists_eq_left', exists_eq_left, exists_and_left, D.int.injEq, D.str.injEq, D.bl.injEq, D.ref.injEq, D.tup.injEq, D.lst.injEq, MO.lst.injEq, List.cons.injEq, and_true, true_and, if_true, if_false, Bool.false_eq_true, Nat.reduceSub, Nat.reduceAdd, reduceIte, reduceCtorEq, mset_same, mset_mset, Bool.not_true, Bool.not_false, imp_self, implies_true, not_false_eq_true, forall_const, ev0, ev1, ev2, ev3, ev4, ev5, ev6, ev7, ev8, ev9, ev10, ev11, ev12, ev13, ev14, ev15, ev16, ev17, ev18, ev19, ev20, ev21, ev22, ev23, ev24, ev25, ev26, ev27, ev28, ev29, ev30, ev31, ev32, ev33, ev34, ev35, ev36, ev37, ev38, ev39, ev40, ev41, ev42, ev43, ev44, ev45, ev46, ev47, ev48, ev49, ev50, ev51, ev52, ev53, ev54, ev55, ev56, ev57, ev58, ev59, ev60, ev61, ev62, ev63, ev64, ev65, ev66, ev67, ev68, ev69, ev70, ev71, ev72, ev73, ev74, ev75, ev76, ev77, ev78, ev79, ev80, ev81, ev82, ev83, ev84, ev85, ev86, ev87, ev88, ev89, ev90, ev91, ev92, ev93, ev94, ev95, ev96, ev97, ev98, ev99, ev100, ev101, ev102, ev103, ev104, ev105, ev106, ev107, ev108, ev109, ev110, ev111, ev112, ev113, ev114, ev115, ev116, ev117, ev118, ev119, ev120, ev121, ev122, ev123, ev124, ev125, ev126, ev127, ev128, ev129, ev130, ev131, ev132, ev133, ev134, ev135, ev136, ev137, ev138, ev139, ev140, ev141, ev142, ev143, ev144, ev145, ev146, ev147, ev148, ev149, ev150, ev151, ev152, ev153, ev154, ev155, ev156, ev157, ev158, ev159, ev160, ev161, ev162])
local macro_rules | `(tactic| walk_at "rq") => `(tactic| simp only [rSetT, rDct0T, rDct1T, rDc, rLcG, rbClause, rbEmit, rZip2, rZip3, rCallO, gLenD, gLenO, gMaxL, gSortL, gSortLO, rFld, rSetF, rMeth, rMake, rFrzI, rProp, rIsC, rRev, rAllK, rLcK, rLcKO, ew0, ew1, ew2, ew3, ew4, ew5, ew6, rRaise, rTry, xCls, enO, setO, rXf, rIsX, Option.elim_some, Option.elim_none, rSeq, rSet, rAsg, rRet, rRetN, rDrop, rIf, rSkip, rVar, rC, rOp, rUn, rTst, rTru, rNot, rAnd, rOr, rAndV, rOrV, rNotV, rIfE, rChain, rCons, rNil, rTup, rLst, rLstO, rCB, rLM, rSM, rSl, rPart, rNoPart, rAll, rRng1, rRng2, rFor, rCall, rAug, rSetIx, rLenSet, rFmt, rJoined, rJs, rLc, rLcO, rFrz, setAll, rYes, rNever, wipeN, nvs, enD, turnD, gNe, gLt, gLe, gGt, gGe, gIn, gNotIn, gIs, gIsNot, gMod, gFdiv, gPow, gAppend, gPop, gPopAt, gClear, gReverse, gExtend, gJoin, gSplit, nm_T, tp_T, at_0, at_1, at_2, at_3, at_4, at_5, at_6, at_7, ix_0, ix_1, ix_2, ix_3, ix_4, List.map_cons, List.map_nil, List.length_cons, List.length_nil, List.replicate, List.cons_append, List.nil_append, List.getElem?_cons_zero, List.getElem?_cons_succ, List.set_cons_zero, List.set_cons_succ, Option.some.injEq, exists_eq_left', exists_eq_left, exists_and_left, D.int.injEq, D.str.injEq, D.bl.injEq, D.ref.injEq, D.tup.injEq, D.lst.injEq, MO.lst.injEq, List.cons.injEq, and_true, true_and, if_true, if_false, Bool.false_eq_true, Nat.reduceSub, Nat.reduceAdd, reduceIte, reduceCtorEq, mset_same, mset_mset, Bool.not_true, Bool.not_false, imp_self, implies_true, not_false_eq_true, forall_const, ev0, ev1, ev2, ev3, ev4, ev5, ev6, ev7, ev8, ev9, ev10, ev11, ev12, ev13, ev14, ev15, ev16, ev17, ev18, ev19, ev20, ev21, ev22, ev23, ev24, ev25, ev26, ev27, ev28, ev29, ev30, ev31, ev32, ev33, ev34, ev35, ev36, ev37, ev38, ev39, ev40, ev41, ev42, ev43, ev44, ev45, ev46, ev47, ev48, ev49, ev50, ev51, ev52, ev53, ev54, ev55, ev56, ev57, ev58, ev59, ev60, ev61, ev62, ev63, ev64, ev65, ev66, ev67, ev68, ev69, ev70, ev71, ev72, ev73, ev74, ev75, ev76, ev77, ev78, ev79, ev80, ev81, ev82, ev83, ev84, ev85, ev86, ev87, ev88, ev89, ev90, ev91, ev92, ev93, ev94, ev95, ev96, ev97, ev98, ev99, ev100, ev101, ev102, ev103, ev104, ev105, ev106, ev107, ev108, ev109, ev110, ev111, ev112, ev113, ev114, ev115, ev116, ev117, ev118, ev119, ev120, ev121, ev122, ev123, ev124, ev125, ev126, ev127, ev128, ev129, ev130, ev131, ev132, ev133, ev134, ev135, ev136, ev137, ev138, ev139, ev140, ev141, ev142, ev143, ev144, ev145, ev146, ev147, ev148, ev149, ev150, ev151, ev152, ev153, ev154, ev155, ev156, ev157, ev158, ev159, ev160, ev161, ev162, Int.reduceEq, Int.reduceNe, Int.reduceLT, Int.reduceLE, Int.reduceNeg, decide_true, decide_false])
def N__law_mixed : List Str := ["_law_bag_here", "_law_items", "_law_left", "_law_found", "_law_k"]
def rd__law_mixed : RS := rSeq (rSet (rCB gListAO (rCons (rVar 1) (rNil))) 2)
  (rSeq (rSet (rLstO (rNil)) 3)
  (rSeq (rFor (rRng1 (rCons (rCB gLen (rCons (rVar 1) (rNil))) (rNil))) (.nm 4) (rDrop (rLM gAppend (rVar 3) (rCons (rLM gPopAt (rVar 2) (rCons (rCall sp__law_draw (rCons (rVar 0) (rCons (rCB gLen (rCons (rVar 2) (rNil))) (rNil)))) (rNil))) (rNil)))))
  (rRet (rVar 3))))

def sp__law_mixed : SpD := fun ds m q _ => ∃ b items, ds = [.ref b, .lst items] ∧ m b = some (.inv Bag) ∧ items.length < 1000000 ∧ ∀ ys : List D, ys.Perm items → ∀ p, m p = none → q (.ref p) (mset m p (.lst ys))
theorem rl__law_mixed : ∀ ds m q xf, sp__law_mixed ds m q xf → ds.length = ["_law_bag_here", "_law_items"].length := fun ds m q xf ⟨b, s, e, _⟩ => by rw [e]; rfl
theorem mset_none {m : Mem} {a b : Addr} {o : MO} (h : mset m a o b = none) : m b = none ∧ b ≠ a := by
  by_cases e : b = a
  · subst e
    rw [mset_same] at h
    cases h
  · rw [mset_ne e] at h
    exact ⟨h, e⟩
theorem mset_over {m : Mem} {a b : Addr} {x y x' y' : MO} (h : b ≠ a) : mset (mset (mset (mset m a x) b y) a x') b y' = mset (mset m a x') b y' := by
  rw [mset_comm (Ne.symm h) (m := m), mset_mset, mset_comm h, mset_mset]
theorem seqIndex_of {i : Int} {n : Nat} (h0 : 0 ≤ i) (h1 : i < n) : seqIndex? i n = some i.toNat := PySem.StrLaws.seqIndex_nonneg h0 h1
theorem perm_draw {l : List D} {i : Nat} {x : D} (h : l[i]? = some x) : (x :: l.eraseIdx i).Perm l := by
  induction l generalizing i with
  | nil => simp at h
  | cons a l ih =>
    cases i with
    | zero =>
      simp at h
      subst h
      exact .refl _
    | succ i =>
      simp at h
      rw [List.eraseIdx_cons_succ]
      exact (List.Perm.swap a x _).trans ((ih h).cons a)
theorem rngD_length (lo : Int) (n : Nat) : (rngD lo n).length = n := by simp [rngD]
theorem rp__law_mixed : ∀ ds m q xf, sp__law_mixed ds m q xf → rd__law_mixed (xdD xf) (enD q) (nvs N__law_mixed ds) m := by
  rintro ds m q xf ⟨b, items, rfl, hb, hl, k⟩
  unfold rd__law_mixed N__law_mixed
  walk_at "rd"
  intro L hL
  refine ⟨by decide, fun F hF => ⟨by omega, by omega, ?_⟩⟩
  have hbL : b ≠ L := mne hb hL
  obtain ⟨hmF, hFL⟩ := mset_none hF
  have hbF : b ≠ F := mne hb hmF
  have hsz : sizeLine = 16777216 := sizeLine_eq
  refine for_step (fun xs n m' => ∃ left found y, n = [some (.ref b), some (.lst items), some (.ref L), some (.ref F), y] ∧ m' = mset (mset m L (.lst left)) F (.lst found) ∧ left.length = xs.length ∧ (found ++ left).Perm items) ?_ ?_ _ _ _ ⟨items, [], none, rfl, rfl, ?_, .refl _⟩
  · rintro n m' ⟨left, found, y, rfl, rfl, hl0, hp⟩
    walk_at "rd"
    have e : left = [] := List.length_eq_zero_iff.mp hl0
    subst e
    rw [List.append_nil] at hp
    exact rt_sub ((Sub.refl m).add hL).both (k found hp F hmF)
  · rintro x xs n m' ⟨left, found, y, rfl, rfl, hl0, hp⟩ kk hk
    walk_at "rd"
    have eL : mset (mset m L (.lst left)) F (.lst found) L = some (.lst left) := by rw [mset_ne (Ne.symm hFL), mset_same]
    rw [eL]
    walk_at "rd"
    rw [List.length_cons] at hl0
    have hle := hp.length_eq
    rw [List.length_append] at hle
    refine ⟨⟨_, rfl⟩, ⟨_, rfl⟩, b, left.length, rfl, by rw [mset_ne hbF, mset_ne hbL]; exact hb, by omega, by omega, fun r h0 h1 => ?_⟩
    have hr : r.toNat < left.length := by omega
    refine ⟨left, r, rfl, eL, by omega, by omega, r.toNat, seqIndex_of h0 h1, left[r.toNat], List.getElem?_eq_getElem hr, found, by rw [mset_ne hFL, mset_same], by omega, ?_⟩
    rw [mset_over hFL]
    refine hk _ _ ⟨_, _, _, rfl, rfl, ?_, ?_⟩
    · rw [List.length_eraseIdx_of_lt hr]
      omega
    · refine List.Perm.trans ?_ hp
      rw [List.append_assoc]
      exact (perm_draw (List.getElem?_eq_getElem hr)).append_left found
  · rw [rngD_length]
    omega
end DL

namespace DL
open PySem PySem.Spec PyProof.Rows L2
/-! the defs of units -/
local macro_rules | `(tactic| walk_at "rd") => `(tactic| simp only [rSetT, rDct0T, rDct1T, rDc, rLcG, rbClause, rbEmit, rZip2, rZip3, rCallO, gLenD, gLenO, gMaxL, gSortL, gSortLO, rFld, rSetF, rMeth, rMake, rFrzI, rProp, rIsC, rRev, rAllK, rLcK, rLcKO, ew0, ew1, ew2, ew3, ew4, ew5, ew6, rRaise, rTry, xCls, enO, setO, rXf, rIsX, Option.elim_some, Option.elim_none, rSeq, rSet, rAsg, rRet, rRetN, rDrop, rIf, rSkip, rVar, rC, rOp, rUn, rTst, rTru, rNot, rAnd, rOr, rAndV, rOrV, rNotV, rIfE, rChain, rCons, rNil, rTup, rLst, rLstO, rCB, rLM, rSM, rSl, rPart, rNoPart, rAll, rRng1, rRng2, rFor, rCall, rAug, rSetIx, rLenSet, rFmt, rJoined, rJs, rLc, rLcO, rFrz, setAll, rYes, rNever, wipeN, nvs, enD, turnD, gNe, gLt, gLe, gGt, gGe, gIn, gNotIn, gIs, gIsNot, gMod, gFdiv, gPow, gAppend, gPop, gPopAt, gClear, gReverse, gExtend, gJoin, gSplit, nm_T, tp_T, at_0, at_1, at_2, at_3, at_4, at_5, at_6, at_7, ix_0, ix_1, ix_2, ix_3, ix_4, List.map_cons, List.map_nil, List.length_cons, List.length_nil, List.replicate, List.cons_append, List.nil_append, List.getElem?_cons_zero, List.getElem?_cons_succ, List.set_cons_zero, List.set_cons_succ, Option.some.injEq, exists_eq_left', exists_eq_left, exists_and_left, D.int.injEq, D.str.injEq, D.bl.injEq, D.ref.injEq, D.tup.injEq, D.lst.injEq, MO.lst.injEq, List.cons.injEq, and_true, true_and, if_true, if_false, Bool.false_eq_true, Nat.reduceSub, Nat.reduceAdd, reduceIte, reduceCtorEq, mset_same, mset_mset, Bool.not_true, Bool.not_false, imp_self, implies_true, not_false_eq_true, forall_const, ev0, ev1, ev2, ev3, ev4, ev5, ev6, ev7, ev8, ev9, ev10, ev11, ev12, ev13, ev14, ev15, ev16, ev17, ev18, ev19, ev20, ev21, ev22, ev23, ev24, ev25, ev26, ev27, ev28, ev29, ev30, ev31, ev32, ev33, ev34, ev35, ev36, ev37, ev38, ev39, ev40, ev41, ev42, ev43, ev44, ev45, ev46, ev47, ev48, ev49, ev50, ev51, ev52, ev53, ev54, ev55, ev56, ev57, ev58, ev59, ev60, ev61, ev62, ev63, ev64, ev65, ev66, ev67, ev68, ev69, ev70, ev71, ev72, ev73, ev74, ev75, ev76, ev77, ev78, ev79, ev80, ev81, ev82, ev83, ev84, ev85, ev86, ev87, ev88, ev89, ev90, ev91, ev92, ev93, ev94, ev95, ev96, ev97, ev98, ev99, ev100, ev101, ev102, ev103, ev104, ev105, ev106, ev107, ev108, ev109, ev110, ev111, ev112, ev113, ev114, ev115, ev116, ev117, ev118, ev119, ev120, ev121, ev122, ev123, ev124, ev125, ev126, ev127, ev128, ev129, ev130, ev131, ev132, ev133, ev134, ev135, ev136, ev137, ev138, ev139, ev140, ev141, ev142, ev143, ev144, ev145, ev146, ev147, ev148, ev149, ev150, ev151, ev152, ev153, ev154, ev155, ev156, ev157, ev158, ev159, ev160, ev161, ev162])
local macro_rules | `(tactic| walk_at "rq") => `(tactic| simp only [rSetT, rDct0T, rDct1T, rDc, rLcG, rbClause, rbEmit, rZip2, rZip3, rCallO, gLenD, gLenO, gMaxL, gSortL, gSortLO, rFld, rSetF, rMeth, rMake, rFrzI, rProp, rIsC, rRev, rAllK, rLcK, rLcKO, ew0, ew1, ew2, ew3, ew4, ew5, ew6, rRaise, rTry, xCls, enO, setO, rXf, rIsX, Option.elim_some, Option.elim_none, rSeq, rSet, rAsg, rRet, rRetN, rDrop, rIf, rSkip, rVar, rC, rOp, rUn, rTst, rTru, rNot, rAnd, rOr, rAndV, rOrV, rNotV, rIfE, rChain, rCons, rNil, rTup, rLst, rLstO, rCB, rLM, rSM, rSl, rPart, rNoPart, rAll, rRng1, rRng2, rFor, rCall, rAug, rSetIx, rLenSet, rFmt, rJoined, rJs, rLc, rLcO, rFrz, setAll, rYes, rNever, wipeN, nvs, enD, turnD, gNe, gLt, gLe, gGt, gGe, gIn, gNotIn, gIs, gIsNot, gMod, gFdiv, gPow, gAppend, gPop, gPopAt, gClear, gReverse, gExtend, gJoin, gSplit, nm_T, tp_T, at_0, at_1, at_2, at_3, at_4, at_5, at_6, at_7, ix_0, ix_1, ix_2, ix_3, ix_4, List.map_cons, List.map_nil, List.length_cons, List.length_nil, List.replicate, List.cons_append, List.nil_append, List.getElem?_cons_zero, List.getElem?_cons_succ, List.set_cons_zero, List.set_cons_succ, Option.some.injEq, exists_eq_left', exists_eq_left, exists_and_left, D.int.injEq, D.str.injEq, D.bl.injEq, D.ref.injEq, D.tup.injEq, D.lst.injEq, MO.lst.injEq, List.cons.injEq, and_true, true_and, if_true, if_false, Bool.false_eq_true, Nat.reduceSub, Nat.reduceAdd, reduceIte, reduceCtorEq, mset_same, mset_mset, Bool.not_true, Bool.not_false, imp_self, implies_true, not_false_eq_true, forall_const, ev0, ev1, ev2, ev3, ev4, ev5, ev6, ev7, ev8, ev9, ev10, ev11, ev12, ev13, ev14, ev15, ev16, ev17, ev18, ev19, ev20, ev21, ev22, ev23, ev24, ev25, ev26, ev27, ev28, ev29, ev30, ev31, ev32, ev33, ev34, ev35, ev36, ev37, ev38, ev39, ev40, ev41, ev42, ev43, ev44, ev45, ev46, ev47, ev48, ev49, ev50, ev51, ev52, ev53, ev54, ev55, ev56, ev57, ev58, ev59, ev60, ev61, ev62, ev63, ev64, ev65, ev66, ev67, ev68, ev69, ev70, ev71, ev72, ev73, ev74, ev75, ev76, ev77, ev78, ev79, ev80, ev81, ev82, ev83, ev84, ev85, ev86, ev87, ev88, ev89, ev90, ev91, ev92, ev93, ev94, ev95, ev96, ev97, ev98, ev99, ev100, ev101, ev102, ev103, ev104, ev105, ev106, ev107, ev108, ev109, ev110, ev111, ev112, ev113, ev114, ev115, ev116, ev117, ev118, ev119, ev120, ev121, ev122, ev123, ev124, ev125, ev126, ev127, ev128, ev129, ev130, ev131, ev132, ev133, ev134, ev135, ev136, ev137, ev138, ev139, ev140, ev141, ev142, ev143, ev144, ev145, ev146, ev147, ev148, ev149, ev150, ev151, ev152, ev153, ev154, ev155, ev156, ev157, ev158, ev159, ev160, ev161, ev162, Int.reduceEq, Int.reduceNe, Int.reduceLT, Int.reduceLE, Int.reduceNeg, decide_true, decide_false])
def N_is_row : List Str := ["value", "unit"]
def rd_is_row : RS := rSeq (rIf (rOr (rNot (rTst (rCB gIsi (rCons (rVar 0) (rCons (rC (.ty "str")) (rNil)))))) (rTst (rOp gGt (rCB gLen (rCons (rVar 0) (rNil))) (rC (.int 2000))))) (rRet (rC (.bl false))) (rSkip))
  (rRet (rCB gAll (rCons (rLc (rAll (rVar 0)) (.nm 1) (rYes) (rOp gIn (rVar 1) (rC (.str [100, 119, 97, 114]))) [1]) (rNil))))

/-- a row, by its signs -/
def isL (c : Nat) : Bool := decide (c ∈ [100, 119, 97, 114])
def isRowC (cs : List Nat) : Bool := decide (cs.length ≤ 2000) && cs.all isL
def isRowD : D → Bool
  | .str cs => isRowC cs
  | _ => false
/-- any value that may be asked of -/
def Anyv (d : D) (m : Mem) : Prop := (∃ a, tyD d m = some a) ∧ ∀ cs, d = .str cs → cs.length ≤ sizeLine
def sp_is_row : SpD := fun ds m q _ => ∃ d, ds = [d] ∧ Anyv d m ∧ q (.bl (isRowD d)) m
theorem rl_is_row : ∀ ds m q xf, sp_is_row ds m q xf → ds.length = ["value"].length := fun ds m q xf ⟨d, e, _⟩ => by rw [e]; rfl
/-- a list of what is told of each sign of a text -/
def onC (g : Nat → D) : D → Option D
  | .str [c] => some (g c)
  | _ => none
theorem chars_filterMap (g : Nat → D) (cs : List Nat) : (chars cs).filterMap (onC g) = cs.map g := by
  unfold chars
  rw [List.filterMap_map]
  rw [← List.filterMap_eq_map]
  rfl
theorem mem_chars {d : D} {cs : List Nat} (h : d ∈ chars cs) : ∃ c, c ∈ cs ∧ d = .str [c] := by
  unfold chars at h
  obtain ⟨c, h1, h2⟩ := List.mem_map.mp h
  exact ⟨c, h1, h2.symm⟩
theorem chars_length (cs : List Nat) : (chars cs).length = cs.length := by simp [chars]
theorem isTy_other {a : String} (h : a ≠ "str") : isTy a "str" = false := by
  unfold isTy
  simp [h]
theorem ty_str {d : D} {m : Mem} (h : tyD d m = some "str") : ∃ cs, d = .str cs := by
  cases d with
  | str cs => exact ⟨cs, rfl⟩
  | non => simp [tyD] at h
  | bl _ => simp [tyD] at h
  | int _ => simp [tyD] at h
  | tup _ => simp [tyD] at h
  | dct t k =>
    cases t <;> simp [tyD] at h
  | _ =>
    simp only [tyD] at h
    generalize lstOf _ m = o at h
    cases o <;> simp [tyL] at h
theorem rp_is_row : ∀ ds m q xf, sp_is_row ds m q xf → rd_is_row (xdD xf) (enD q) (nvs N_is_row ds) m := by
  rintro ds m q xf ⟨d, rfl, ⟨⟨a, ha⟩, hz⟩, k⟩
  unfold rd_is_row N_is_row
  by_cases h1 : a = "str"
  · subst h1
    obtain ⟨cs, rfl⟩ := ty_str ha
    have hz := hz cs rfl
    walk_at "rd"
    refine ⟨by decide, ?_⟩
    simp only [show isTy "str" "str" = true by decide, Bool.not_true, Bool.false_eq_true, if_false]
    refine ⟨hz, ?_⟩
    by_cases h2 : cs.length ≤ 2000
    · rw [if_neg (by simp; omega)]
      refine comp_go (onC fun c => .bl (isL c)) (by rw [chars_length]; omega) (fun P hP x hx acc hl kk hk => ?_) fun P hP => ?_
      · obtain ⟨c, _, rfl⟩ := mem_chars hx
        walk_at "rd"
        exact ⟨hl, hk⟩
      · rw [chars_filterMap, mdel_mset hP]
        refine ⟨_, mset_same, cs.map isL, ?_, rt_same ?_⟩
        · have := bls_map (cs.map isL)
          rw [List.map_map] at this
          exact this
        · have e : isRowD (.str cs) = (cs.map isL).all id := by
            show isRowC cs = _
            unfold isRowC
            rw [decide_eq_true h2, List.all_map]
            rfl
          rw [e] at k
          exact k
    · rw [if_pos (by simp; omega)]
      have e : isRowD (.str cs) = false := by
        show isRowC cs = _
        unfold isRowC
        rw [decide_eq_false h2]
        rfl
      rw [e] at k
      exact rt_same k
  · have e : isRowD d = false := by
      cases d with
      | str cs => exact absurd (Option.some.inj (ha.symm.trans (rfl : tyD (.str cs) m = some "str"))) h1
      | _ => rfl
    walk_at "rd"
    refine ⟨a, ha, by decide, ?_⟩
    rw [isTy_other h1]
    rw [e] at k
    exact rt_same k
def N_is_kinds : List Str := ["value"]
def rd_is_kinds : RS := rRet (rAndV (rCall sp_is_row (rCons (rVar 0) (rNil))) (rAndV (rChain gLe gLe (rC (.int 1)) (rCB gLen (rCons (rVar 0) (rNil))) (rCB gLen (rCons (rC (.str [100, 119, 97, 114])) (rNil)))) (rOp gEq (rLenSet (rVar 0)) (rCB gLen (rCons (rVar 0) (rNil))))))

/-- kinds -/
def isKindsC (cs : List Nat) : Bool := isRowC cs && decide (1 ≤ cs.length) && decide (cs.length ≤ 4) && decide (cs.Nodup)
def isKindsD : D → Bool
  | .str cs => isKindsC cs
  | _ => false
def sp_is_kinds : SpD := fun ds m q _ => ∃ d, ds = [d] ∧ Anyv d m ∧ q (.bl (isKindsD d)) m
theorem rl_is_kinds : ∀ ds m q xf, sp_is_kinds ds m q xf → ds.length = ["value"].length := fun ds m q xf ⟨d, e, _⟩ => by rw [e]; rfl
theorem rp_is_kinds : ∀ ds m q xf, sp_is_kinds ds m q xf → rd_is_kinds (xdD xf) (enD q) (nvs N_is_kinds ds) m := by
  rintro ds m q xf ⟨d, rfl, ha, k⟩
  unfold rd_is_kinds N_is_kinds
  walk_at "rd"
  refine ⟨d, rfl, ha, ?_⟩
  refine ⟨_, rfl, ite2 (fun h => ?_) fun h => ?_⟩
  · cases d with
    | str cs =>
      have h : isRowC cs = true := h
      have h2 : cs.length ≤ 2000 := by
        unfold isRowC at h
        simp at h
        exact h.1
      have hz : sizeLine = 16777216 := sizeLine_eq
      have e : isKindsD (.str cs) = (decide (1 ≤ cs.length) && decide (cs.length ≤ 4) && decide (cs.Nodup)) := by
        show isKindsC cs = _
        unfold isKindsC
        rw [h, Bool.true_and]
      rw [e] at k
      walk_at "rd"
      refine ⟨by omega, ite2 (fun h3 => ⟨by omega, ite2 (fun h4 => ⟨by omega, by omega, ?_⟩) fun h4 => ?_⟩) fun h3 => ?_⟩
      · rw [decide_eq_true (show 1 ≤ cs.length by have := of_decide_eq_true h3; omega), decide_eq_true (show cs.length ≤ 4 by have := of_decide_eq_true h4; omega)] at k
        have e2 : decide (((met cs).length : Int) = (cs.length : Int)) = decide cs.Nodup := by
          rw [decide_eq_decide, ← met_eq]
          omega
        rw [e2]
        exact rt_same (by simpa using k)
      · rw [decide_eq_false (show ¬ cs.length ≤ 4 by intro z; apply h4; exact decide_eq_true (by omega))] at k
        exact rt_same (by simpa using k)
      · rw [decide_eq_false (show ¬ 1 ≤ cs.length by intro z; apply h3; exact decide_eq_true (by omega))] at k
        exact rt_same (by simpa using k)
    | _ => cases h
  · have e : isKindsD d = false := by
      cases d with
      | str cs =>
        have h : ¬ isRowC cs = true := h
        show isKindsC cs = false
        unfold isKindsC
        rw [eq_false_of_ne_true h]
        rfl
      | _ => rfl
    rw [e] at k
    exact rt_same k
def N_check_row : List Str := ["row"]
def rd_check_row : RS := rIf (rNot (rTst (rCall sp_is_row (rCons (rVar 0) (rNil))))) (rRaise "BadRow" (rVar 0)) (rSkip)

def N_check_kinds : List Str := ["kinds"]
def rd_check_kinds : RS := rIf (rNot (rTst (rCall sp_is_kinds (rCons (rVar 0) (rNil))))) (rRaise "BadKinds" (rVar 0)) (rSkip)

theorem xd_same {xf : XF} {c : Str} {fs : List (Str × D)} {n : Nv} {m : Mem} (h : xf c fs m) : xdD xf c fs n m := ⟨m, Sub.refl m, h⟩
/-- what a check comes to -/
def chk (x : Str) (d : D) (m : Mem) (q : QD) (xf : XF) : Bool → Prop
  | true => q .non m
  | false => xf x [("given", d)] m
theorem chk_ok {x : Str} {d : D} {m : Mem} {q : QD} {xf : XF} {b : Bool} (h : b = true) (k : q .non m) : chk x d m q xf b := by
  rw [h]
  exact k
def sp_check_row : SpD := fun ds m q xf => ∃ d, ds = [d] ∧ Anyv d m ∧ chk "BadRow" d m q xf (isRowD d)
theorem rl_check_row : ∀ ds m q xf, sp_check_row ds m q xf → ds.length = ["row"].length := fun ds m q xf ⟨d, e, _⟩ => by rw [e]; rfl
theorem rp_check_row : ∀ ds m q xf, sp_check_row ds m q xf → rd_check_row (xdD xf) (enD q) (nvs N_check_row ds) m := by
  rintro ds m q xf ⟨d, rfl, ha, k⟩
  unfold rd_check_row N_check_row
  walk_at "rd"
  refine ⟨d, rfl, ha, ?_⟩
  cases h : isRowD d
  · rw [h] at k
    walk_at "rd"
    exact xd_same k
  · rw [h] at k
    walk_at "rd"
    exact rt_same k
def sp_check_kinds : SpD := fun ds m q xf => ∃ d, ds = [d] ∧ Anyv d m ∧ chk "BadKinds" d m q xf (isKindsD d)
theorem rl_check_kinds : ∀ ds m q xf, sp_check_kinds ds m q xf → ds.length = ["kinds"].length := fun ds m q xf ⟨d, e, _⟩ => by rw [e]; rfl
theorem rp_check_kinds : ∀ ds m q xf, sp_check_kinds ds m q xf → rd_check_kinds (xdD xf) (enD q) (nvs N_check_kinds ds) m := by
  rintro ds m q xf ⟨d, rfl, ha, k⟩
  unfold rd_check_kinds N_check_kinds
  walk_at "rd"
  refine ⟨d, rfl, ha, ?_⟩
  cases h : isKindsD d
  · rw [h] at k
    walk_at "rd"
    exact xd_same k
  · rw [h] at k
    walk_at "rd"
    exact rt_same k
theorem row_len {cs : List Nat} (h : isRowC cs = true) : cs.length ≤ 2000 := by
  unfold isRowC at h
  simp at h
  exact h.1
theorem kinds_row {cs : List Nat} (h : isKindsC cs = true) : isRowC cs = true := by
  unfold isKindsC at h
  simp at h
  exact h.1.1.1
theorem any_str {cs : List Nat} {m : Mem} (h : cs.length ≤ 16000000) : Anyv (.str cs) m := ⟨⟨_, rfl⟩, fun c e => by
  cases e
  rw [sizeLine_eq]
  omega⟩
theorem any_row {cs : List Nat} {m : Mem} (h : isRowC cs = true) : Anyv (.str cs) m := any_str (Nat.le_trans (row_len h) (by decide))
theorem any_kinds {cs : List Nat} {m : Mem} (h : isKindsC cs = true) : Anyv (.str cs) m := any_row (kinds_row h)
def N_places_of : List Str := ["row", "kinds", "unit"]
def rd_places_of : RS := rSeq (rDrop (rCall sp_check_row (rCons (rVar 0) (rNil))))
  (rSeq (rDrop (rCall sp_check_kinds (rCons (rVar 1) (rNil))))
  (rRet (rLcO (rRng1 (rCons (rCB gLen (rCons (rVar 0) (rNil))) (rNil))) (.nm 2) (rTst (rOp gIn (rOp gIx (rVar 0) (rVar 2)) (rVar 1))) (rVar 2) [2])))

def plF (rs ks : List Nat) : D → Option D
  | .int i => if decide (∃ c, atI rs i = some c ∧ c ∈ ks) = true then some (.int i) else none
  | _ => none
def placesD (rs ks : List Nat) : List D := (rngD 0 rs.length).filterMap (plF rs ks)
theorem mem_rngD {d : D} {lo : Int} {n : Nat} (h : d ∈ rngD lo n) : ∃ i : Nat, i < n ∧ d = .int (lo + i) := by
  unfold rngD at h
  obtain ⟨i, h1, h2⟩ := List.mem_map.mp h
  exact ⟨i, List.mem_range.mp h1, h2.symm⟩
theorem rngD_succ (lo : Int) (n : Nat) : rngD lo (n + 1) = .int lo :: rngD (lo + 1) n := by
  unfold rngD
  rw [List.range_succ_eq_map, List.map_cons, List.map_map]
  congr 1
  · simp
  · apply List.map_congr_left
    intro a _
    show D.int (lo + ((a + 1 : Nat) : Int)) = D.int (lo + 1 + a)
    congr 1
    omega
theorem rngD_zero (lo : Int) : rngD lo 0 = [] := rfl
theorem atI_nat {α : Type} {xs : List α} {i : Nat} (h : i < xs.length) : atI xs (0 + (i : Int)) = some xs[i] := by
  rw [Int.zero_add, atI_of (by omega) (by omega)]
  simp
def sp_places_of : SpD := fun ds m q _ => ∃ rs ks, ds = [.str rs, .str ks] ∧ isRowC rs = true ∧ isKindsC ks = true ∧ ∀ p, m p = none → q (.ref p) (mset m p (.lst (placesD rs ks)))
theorem rl_places_of : ∀ ds m q xf, sp_places_of ds m q xf → ds.length = ["row", "kinds"].length := fun ds m q xf ⟨d, _, e, _⟩ => by rw [e]; rfl
theorem rp_places_of : ∀ ds m q xf, sp_places_of ds m q xf → rd_places_of (xdD xf) (enD q) (nvs N_places_of ds) m := by
  rintro ds m q xf ⟨rs, ks, rfl, h1, h2, k⟩
  unfold rd_places_of N_places_of
  walk_at "rd"
  refine ⟨_, rfl, any_row h1, chk_ok h1 ⟨_, rfl, any_kinds h2, chk_ok h2 ?_⟩⟩
  have hl := row_len h1
  have hz : sizeLine = 16777216 := sizeLine_eq
  refine ⟨by omega, by omega, by omega, ?_⟩
  rw [Int.toNat_natCast]
  refine comp_go (plF rs ks) (by rw [rngD_length]; omega) (fun P hP x hx acc hl kk hk => ?_) fun P hP => ?_
  · obtain ⟨i, hi, rfl⟩ := mem_rngD hx
    walk_at "rd"
    rw [plF] at hk
    rw [atI_nat hi] at hk ⊢
    walk_at "rd"
    simp only [Option.some.injEq, exists_eq_left'] at hk
    refine ⟨by omega, ?_⟩
    by_cases hc : rs[i] ∈ ks
    · simp only [hc, decide_true, if_true] at hk ⊢
      exact ⟨hl, hk⟩
    · simp only [hc, decide_false, if_false, Bool.false_eq_true] at hk ⊢
      exact hk
  · exact rt_same (k P hP)
def sp_units_of : SpD := fun ds m q _ => ∃ rs ks, ds = [.str rs, .str ks] ∧ isRowC rs = true ∧ isKindsC ks = true ∧ q (.int (placesD rs ks).length) m
def N_units_of : List Str := ["row", "kinds"]
def rd_units_of : RS := rRet (rCB gLen (rCons (rCall sp_places_of (rCons (rVar 0) (rCons (rVar 1) (rNil)))) (rNil)))

theorem rl_units_of : ∀ ds m q xf, sp_units_of ds m q xf → ds.length = ["row", "kinds"].length := fun ds m q xf ⟨d, _, e, _⟩ => by rw [e]; rfl
theorem rp_units_of : ∀ ds m q xf, sp_units_of ds m q xf → rd_units_of (xdD xf) (enD q) (nvs N_units_of ds) m := by
  rintro ds m q xf ⟨rs, ks, rfl, h1, h2, k⟩
  unfold rd_units_of N_units_of
  walk_at "rd"
  refine ⟨_, _, rfl, h1, h2, fun p hp => ?_⟩
  walk_at "rd"
  exact rt_sub ((Sub.refl m).add hp) k
def N_longest_of : List Str := ["row", "kinds", "greatest", "now", "unit"]
def rd_longest_of : RS := rSeq (rDrop (rCall sp_check_row (rCons (rVar 0) (rNil))))
  (rSeq (rDrop (rCall sp_check_kinds (rCons (rVar 1) (rNil))))
  (rSeq (rSet (rC (.int 0)) 2)
  (rSeq (rSet (rC (.int 0)) 3)
  (rSeq (rFor (rAll (rVar 0)) (.nm 4) (rSeq (rSet (rIfE (rTst (rOp gIn (rVar 4) (rVar 1))) (rOp gAdd (rVar 3) (rC (.int 1))) (rC (.int 0))) 3)
  (rSet (rCB gMax2 (rCons (rVar 2) (rCons (rVar 3) (rNil)))) 2)))
  (rRet (rVar 2))))))

/-- the longest run: as the program finds it -/
def longGo (ks : List Nat) : Nat → Nat → List Nat → Nat
  | g, _, [] => g
  | g, n, c :: cs => if c ∈ ks then longGo ks (max g (n + 1)) (n + 1) cs else longGo ks g 0 cs
/-- a run at the head, and the longest run anywhere -/
def runC (ks : List Nat) : List Nat → Nat
  | [] => 0
  | c :: cs => if c ∈ ks then runC ks cs + 1 else 0
def bestC (ks : List Nat) : List Nat → Nat
  | [] => 0
  | c :: cs => max (runC ks (c :: cs)) (bestC ks cs)
theorem longGo_eq (ks : List Nat) : ∀ (cs : List Nat) (g n : Nat), longGo ks g n cs = max g (max (if runC ks cs = 0 then 0 else n + runC ks cs) (bestC ks cs))
  | [], g, n => by simp [longGo, runC, bestC]
  | c :: cs, g, n => by
    rw [longGo, bestC, runC]
    by_cases h : c ∈ ks
    · simp only [h, if_true]
      rw [longGo_eq ks cs, if_neg (Nat.succ_ne_zero _)]
      split <;> omega
    · simp only [h, if_false]
      rw [longGo_eq ks cs, if_pos trivial]
      have : runC ks cs ≤ bestC ks cs := by cases cs <;> simp [runC, bestC] <;> omega
      split <;> omega
theorem long_best (ks cs : List Nat) : longGo ks 0 0 cs = bestC ks cs := by
  rw [longGo_eq]
  have : runC ks cs ≤ bestC ks cs := by cases cs <;> simp [runC, bestC] <;> omega
  split <;> omega
def sp_longest_of : SpD := fun ds m q _ => ∃ rs ks, ds = [.str rs, .str ks] ∧ isRowC rs = true ∧ isKindsC ks = true ∧ q (.int (bestC ks rs)) m
theorem rl_longest_of : ∀ ds m q xf, sp_longest_of ds m q xf → ds.length = ["row", "kinds"].length := fun ds m q xf ⟨d, _, e, _⟩ => by rw [e]; rfl
theorem rp_longest_of : ∀ ds m q xf, sp_longest_of ds m q xf → rd_longest_of (xdD xf) (enD q) (nvs N_longest_of ds) m := by
  rintro ds m q xf ⟨rs, ks, rfl, h1, h2, k⟩
  unfold rd_longest_of N_longest_of
  walk_at "rd"
  refine ⟨_, rfl, any_row h1, chk_ok h1 ⟨_, rfl, any_kinds h2, chk_ok h2 ?_⟩⟩
  refine for_step (fun xs n m' => ∃ (cs : List Nat) (g : Nat) (r : Nat) (y : Option D), xs = chars cs ∧ n = [some (.str rs), some (.str ks), some (.int g), some (.int r), y] ∧ m' = m ∧ longGo ks g r cs = bestC ks rs) ?_ ?_ _ _ _ ⟨rs, 0, 0, none, rfl, rfl, rfl, long_best ks rs⟩
  · rintro n m' ⟨cs, g, r, y, h, rfl, rfl, hg⟩
    cases cs with
    | cons c cs => cases h
    | nil =>
      rw [longGo] at hg
      rw [← hg] at k
      walk_at "rd"
      exact rt_same k
  · rintro x xs n m' ⟨cs, g, r, y, h, rfl, rfl, hg⟩ kk hk
    cases cs with
    | nil => cases h
    | cons c cs =>
      cases h
      rw [longGo] at hg
      walk_at "rd"
      by_cases hc : c ∈ ks
      · simp only [hc, if_true, decide_true] at hg ⊢
        refine hk _ _ ⟨cs, _, _, some (.str [c]), rfl, ?_, rfl, hg⟩
        have e1 : (if ((r : Int) + 1) > (g : Int) then ((r : Int) + 1) else (g : Int)) = ((max g (r + 1) : Nat) : Int) := by split <;> omega
        rw [e1]
        rfl
      · simp only [hc, if_false, decide_false, Bool.false_eq_true] at hg ⊢
        refine hk _ _ ⟨cs, g, 0, some (.str [c]), rfl, ?_, rfl, hg⟩
        have e1 : (if (0 : Int) > (g : Int) then (0 : Int) else (g : Int)) = (g : Int) := by split <;> omega
        rw [e1]
        rfl
/-! ### signs, joined and drawn -/
theorem atI_mem {α : Type} {L : List α} {r : Int} (h0 : 0 ≤ r) (h1 : r < L.length) : ∃ x, x ∈ L ∧ atI L r = some x := ⟨_, List.getElem_mem (by omega), atI_of h0 h1⟩
theorem glu_fold (a : List Nat) : ∀ (rest : List (List Nat)) (acc : Array Nat), ((rest.map ofC).foldl (fun acc p => acc ++ (ofC a).cps ++ p.cps) acc).toList = acc.toList ++ (rest.map (a ++ ·)).flatten
  | [], acc => by simp
  | x :: rest, acc => by
    rw [List.map_cons, List.foldl_cons, glu_fold a rest]
    simp
theorem joinC_cons (a x : List Nat) (rest : List (List Nat)) : joinC a (x :: rest) = x ++ (rest.map (a ++ ·)).flatten := by
  show (((x :: rest).map ofC).drop 1 |>.foldl _ (((x :: rest).map ofC).headD Str.empty).cps).toList = _
  rw [List.map_cons, List.drop_one, List.tail_cons]
  exact glu_fold a rest _
theorem joinC_nil (ys : List (List Nat)) : joinC [] ys = ys.flatten := by
  cases ys with
  | nil => rfl
  | cons x r =>
    rw [joinC_cons, List.flatten_cons]
    simp
theorem chars_map (cs : List Nat) : chars cs = (cs.map fun c => [c]).map D.str := by
  unfold chars
  rw [List.map_map]
  rfl
theorem txts_chars (cs : List Nat) : txts (chars cs) = some (cs.map fun c => [c]) := by rw [chars_map, strs_map]
theorem flat_ones (cs : List Nat) : (cs.map fun c => [c]).flatten = cs := by
  induction cs with
  | nil => rfl
  | cons c cs ih => rw [List.map_cons, List.flatten_cons, ih]; rfl
theorem sum_ones (cs : List Nat) : ((cs.map fun c => [c]).map fun x => x.length).sum = cs.length := by
  induction cs with
  | nil => rfl
  | cons c cs ih => rw [List.map_cons, List.map_cons, List.sum_cons, ih, List.length_cons]; simp; omega
def getC : D → Option Nat
  | .str [c] => some c
  | _ => none
theorem perm_chars {zs : List D} {cs : List Nat} (h : zs.Perm (chars cs)) : ∃ cs', zs = chars cs' ∧ cs'.Perm cs := by
  refine ⟨zs.filterMap getC, ?_, ?_⟩
  · have hz : ∀ z ∈ zs, ∃ c, z = .str [c] := fun z hz => by
      obtain ⟨c, _, e⟩ := mem_chars (h.mem_iff.mp hz)
      exact ⟨c, e⟩
    clear h
    induction zs with
    | nil => rfl
    | cons z zs ih =>
      obtain ⟨c, rfl⟩ := hz z List.mem_cons_self
      rw [show (D.str [c] :: zs).filterMap getC = c :: zs.filterMap getC from rfl]
      show _ = D.str [c] :: chars _
      rw [← ih fun z h => hz z (List.mem_cons_of_mem _ h)]
  · have := h.filterMap getC
    have e : (chars cs).filterMap getC = cs := by
      unfold chars
      rw [List.filterMap_map]
      show cs.filterMap some = cs
      exact List.filterMap_some
    rw [e] at this
    exact this
theorem row_perm {a b : List Nat} (h : a.Perm b) : isRowC a = isRowC b := by
  unfold isRowC
  rw [h.length_eq, h.all_eq]
theorem kinds_perm {a b : List Nat} (h : a.Perm b) : isKindsC a = isKindsC b := by
  unfold isKindsC
  rw [row_perm h, h.length_eq]
  congr 1
  rw [decide_eq_decide]
  exact h.nodup_iff
end DL

namespace DL
open PySem PySem.Spec PyProof.Rows L2
/-! k13: kinds and rows drawn -/
local macro_rules | `(tactic| walk_at "rd") => `(tactic| simp only [rSetT, rDct0T, rDct1T, rDc, rLcG, rbClause, rbEmit, rZip2, rZip3, rCallO, gLenD, gLenO, gMaxL, gSortL, gSortLO, rFld, rSetF, rMeth, rMake, rFrzI, rProp, rIsC, rRev, rAllK, rLcK, rLcKO, ew0, ew1, ew2, ew3, ew4, ew5, ew6, rRaise, rTry, xCls, enO, setO, rXf, rIsX, Option.elim_some, Option.elim_none, rSeq, rSet, rAsg, rRet, rRetN, rDrop, rIf, rSkip, rVar, rC, rOp, rUn, rTst, rTru, rNot, rAnd, rOr, rAndV, rOrV, rNotV, rIfE, rChain, rCons, rNil, rTup, rLst, rLstO, rCB, rLM, rSM, rSl, rPart, rNoPart, rAll, rRng1, rRng2, rFor, rCall, rAug, rSetIx, rLenSet, rFmt, rJoined, rJs, rLc, rLcO, rFrz, setAll, rYes, rNever, wipeN, nvs, enD, turnD, gNe, gLt, gLe, gGt, gGe, gIn, gNotIn, gIs, gIsNot, gMod, gFdiv, gPow, gAppend, gPop, gPopAt, gClear, gReverse, gExtend, gJoin, gSplit, nm_T, tp_T, at_0, at_1, at_2, at_3, at_4, at_5, at_6, at_7, ix_0, ix_1, ix_2, ix_3, ix_4, List.map_cons, List.map_nil, List.length_cons, List.length_nil, List.replicate, List.cons_append, List.nil_append, List.getElem?_cons_zero, List.getElem?_cons_succ, List.set_cons_zero, List.set_cons_succ, Option.some.injEq, exists_eq_left', exists_eq_left, exists_and_left, D.int.injEq, D.str.injEq, D.bl.injEq, D.ref.injEq, D.tup.injEq, D.lst.injEq, MO.lst.injEq, List.cons.injEq, and_true, true_and, if_true, if_false, Bool.false_eq_true, Nat.reduceSub, Nat.reduceAdd, reduceIte, reduceCtorEq, mset_same, mset_mset, Bool.not_true, Bool.not_false, imp_self, implies_true, not_false_eq_true, forall_const, ev0, ev1, ev2, ev3, ev4, ev5, ev6, ev7, ev8, ev9, ev10, ev11, ev12, ev13, ev14, ev15, ev16, ev17, ev18, ev19, ev20, ev21, ev22, ev23, ev24, ev25, ev26, ev27, ev28, ev29, ev30, ev31, ev32, ev33, ev34, ev35, ev36, ev37, ev38, ev39, ev40, ev41, ev42, ev43, ev44, ev45, ev46, ev47, ev48, ev49, ev50, ev51, ev52, ev53, ev54, ev55, ev56, ev57, ev58, ev59, ev60, ev61, ev62, ev63, ev64, ev65, ev66, ev67, ev68, ev69, ev70, ev71, ev72, ev73, ev74, ev75, ev76, ev77, ev78, ev79, ev80, ev81, ev82, ev83, ev84, ev85, ev86, ev87, ev88, ev89, ev90, ev91, ev92, ev93, ev94, ev95, ev96, ev97, ev98, ev99, ev100, ev101, ev102, ev103, ev104, ev105, ev106, ev107, ev108, ev109, ev110, ev111, ev112, ev113, ev114, ev115, ev116, ev117, ev118, ev119, ev120, ev121, ev122, ev123, ev124, ev125, ev126, ev127, ev128, ev129, ev130, ev131, ev132, ev133, ev134, ev135, ev136, ev137, ev138, ev139, ev140, ev141, ev142, ev143, ev144, ev145, ev146, ev147, ev148, ev149, ev150, ev151, ev152, ev153, ev154, ev155, ev156, ev157, ev158, ev159, ev160, ev161, ev162])
local macro_rules | `(tactic| walk_at "rq") => `(tactic| simp only [rSetT, rDct0T, rDct1T, rDc, rLcG, rbClause, rbEmit, rZip2, rZip3, rCallO, gLenD, gLenO, gMaxL, gSortL, gSortLO, rFld, rSetF, rMeth, rMake, rFrzI, rProp, rIsC, rRev, rAllK, rLcK, rLcKO, ew0, ew1, ew2, ew3, ew4, ew5, ew6, rRaise, rTry, xCls, enO, setO, rXf, rIsX, Option.elim_some, Option.elim_none, rSeq, rSet, rAsg, rRet, rRetN, rDrop, rIf, rSkip, rVar, rC, rOp, rUn, rTst, rTru, rNot, rAnd, rOr, rAndV, rOrV, rNotV, rIfE, rChain, rCons, rNil, rTup, rLst, rLstO, rCB, rLM, rSM, rSl, rPart, rNoPart, rAll, rRng1, rRng2, rFor, rCall, rAug, rSetIx, rLenSet, rFmt, rJoined, rJs, rLc, rLcO, rFrz, setAll, rYes, rNever, wipeN, nvs, enD, turnD, gNe, gLt, gLe, gGt, gGe, gIn, gNotIn, gIs, gIsNot, gMod, gFdiv, gPow, gAppend, gPop, gPopAt, gClear, gReverse, gExtend, gJoin, gSplit, nm_T, tp_T, at_0, at_1, at_2, at_3, at_4, at_5, at_6, at_7, ix_0, ix_1, ix_2, ix_3, ix_4, List.map_cons, List.map_nil, List.length_cons, List.length_nil, List.replicate, List.cons_append, List.nil_append, List.getElem?_cons_zero, List.getElem?_cons_succ, List.set_cons_zero, List.set_cons_succ, Option.some.injEq, exists_eq_left', exists_eq_left, exists_and_left, D.int.injEq, D.str.injEq, D.bl.injEq, D.ref.injEq, D.tup.injEq, D.lst.injEq, MO.lst.injEq, List.cons.injEq, and_true, true_and, if_true, if_false, Bool.false_eq_true, Nat.reduceSub, Nat.reduceAdd, reduceIte, reduceCtorEq, mset_same, mset_mset, Bool.not_true, Bool.not_false, imp_self, implies_true, not_false_eq_true, forall_const, ev0, ev1, ev2, ev3, ev4, ev5, ev6, ev7, ev8, ev9, ev10, ev11, ev12, ev13, ev14, ev15, ev16, ev17, ev18, ev19, ev20, ev21, ev22, ev23, ev24, ev25, ev26, ev27, ev28, ev29, ev30, ev31, ev32, ev33, ev34, ev35, ev36, ev37, ev38, ev39, ev40, ev41, ev42, ev43, ev44, ev45, ev46, ev47, ev48, ev49, ev50, ev51, ev52, ev53, ev54, ev55, ev56, ev57, ev58, ev59, ev60, ev61, ev62, ev63, ev64, ev65, ev66, ev67, ev68, ev69, ev70, ev71, ev72, ev73, ev74, ev75, ev76, ev77, ev78, ev79, ev80, ev81, ev82, ev83, ev84, ev85, ev86, ev87, ev88, ev89, ev90, ev91, ev92, ev93, ev94, ev95, ev96, ev97, ev98, ev99, ev100, ev101, ev102, ev103, ev104, ev105, ev106, ev107, ev108, ev109, ev110, ev111, ev112, ev113, ev114, ev115, ev116, ev117, ev118, ev119, ev120, ev121, ev122, ev123, ev124, ev125, ev126, ev127, ev128, ev129, ev130, ev131, ev132, ev133, ev134, ev135, ev136, ev137, ev138, ev139, ev140, ev141, ev142, ev143, ev144, ev145, ev146, ev147, ev148, ev149, ev150, ev151, ev152, ev153, ev154, ev155, ev156, ev157, ev158, ev159, ev160, ev161, ev162, Int.reduceEq, Int.reduceNe, Int.reduceLT, Int.reduceLE, Int.reduceNeg, decide_true, decide_false])
def N__law_kinds : List Str := ["_law_bag_here", "_law_kinds_here"]
def rd__law_kinds : RS := rSeq (rSet (rOp gIx (rLst (rCons (rC (.str [100])) (rCons (rC (.str [100, 119])) (rCons (rC (.str [100, 119, 97])) (rCons (rC (.str [100, 119, 97, 114])) (rCons (rC (.str [119])) (rCons (rC (.str [100, 114])) (rCons (rC (.str [97, 119])) (rCons (rC (.str [114])) (rNil)))))))))) (rOp gIx (rLst (rCons (rC (.int 0)) (rCons (rC (.int 0)) (rCons (rC (.int 1)) (rCons (rC (.int 1)) (rCons (rC (.int 2)) (rCons (rC (.int 3)) (rCons (rC (.int 4)) (rCons (rC (.int 5)) (rCons (rC (.int 6)) (rCons (rC (.int 7)) (rNil)))))))))))) (rCall sp__law_draw (rCons (rVar 0) (rCons (rC (.int 10)) (rNil)))))) 1)
  (rRet (rSM gJoin (rC (.str [])) (rCons (rCall sp__law_mixed (rCons (rVar 0) (rCons (rCB gListA (rCons (rVar 1) (rNil))) (rNil)))) (rNil))))

def sp__law_kinds : SpD := fun ds m q _ => ∃ b, ds = [.ref b] ∧ m b = some (.inv Bag) ∧ ∀ ks, isKindsC ks = true → q (.str ks) m
theorem rl__law_kinds : ∀ ds m q xf, sp__law_kinds ds m q xf → ds.length = ["_law_bag_here"].length := fun ds m q xf ⟨d, e, _⟩ => by rw [e]; rfl
theorem rp__law_kinds : ∀ ds m q xf, sp__law_kinds ds m q xf → rd__law_kinds (xdD xf) (enD q) (nvs N__law_kinds ds) m := by
  rintro ds m q xf ⟨b, rfl, hb, k⟩
  unfold rd__law_kinds N__law_kinds
  walk_at "rd"
  refine ⟨by decide, by decide, _, _, rfl, hb, by decide, by decide, fun r h0 h1 => ?_⟩
  have hz : sizeLine = 16777216 := sizeLine_eq
  walk_at "rd"
  obtain ⟨x, hx, ex⟩ := atI_mem (L := [D.int 0, D.int 0, D.int 1, D.int 1, D.int 2, D.int 3, D.int 4, D.int 5, D.int 6, D.int 7]) h0 h1
  have hx : ∃ j : Int, x = .int j ∧ 0 ≤ j ∧ j < 8 := by
    simp at hx
    rcases hx with rfl | rfl | rfl | rfl | rfl | rfl | rfl | rfl <;> exact ⟨_, rfl, by decide, by decide⟩
  obtain ⟨j, rfl, j0, j1⟩ := hx
  refine ⟨_, ex, ?_⟩
  obtain ⟨y, hy, ey⟩ := atI_mem (L := [D.str [100], D.str [100, 119], D.str [100, 119, 97], D.str [100, 119, 97, 114], D.str [119], D.str [100, 114], D.str [97, 119], D.str [114]]) j0 j1
  have hy : ∃ cs, y = .str cs ∧ isKindsC cs = true := by
    simp at hy
    rcases hy with rfl | rfl | rfl | rfl | rfl | rfl | rfl | rfl <;> exact ⟨_, rfl, by decide⟩
  obtain ⟨cs, rfl, hcs⟩ := hy
  walk_at "rd"
  have hl := row_len (kinds_row hcs)
  refine ⟨_, ey, ⟨_, rfl⟩, ?_⟩
  walk_at "rd"
  refine ⟨by omega, _, _, rfl, hb, by rw [chars_length]; omega, fun zs hp p hm => ?_⟩
  walk_at "rd"
  obtain ⟨cs', rfl, hp2⟩ := perm_chars hp
  refine ⟨_, txts_chars cs', by rw [sum_ones, hp2.length_eq]; omega, ?_⟩
  rw [joinC_nil, flat_ones]
  exact rt_sub ((Sub.refl m).add hm) (k cs' (by rw [kinds_perm hp2]; exact hcs))
def N__law_some_kinds : List Str := ["_law_bag_here", "_law_choice"]
def rd__law_some_kinds : RS := rSeq (rSet (rCall sp__law_draw (rCons (rVar 0) (rCons (rC (.int 4)) (rNil)))) 1)
  (rSeq (rIf (rTst (rOp gEq (rVar 1) (rC (.int 0)))) (rRet (rC (.str [100, 119, 97, 114]))) (rSkip))
  (rSeq (rIf (rTst (rOp gEq (rVar 1) (rC (.int 1)))) (rRet (rOp gIx (rC (.str [100, 119, 97, 114])) (rCall sp__law_draw (rCons (rVar 0) (rCons (rC (.int 4)) (rNil)))))) (rSkip))
  (rRet (rCall sp__law_kinds (rCons (rVar 0) (rNil))))))

def sp__law_some_kinds : SpD := fun ds m q _ => ∃ b, ds = [.ref b] ∧ m b = some (.inv Bag) ∧ ∀ ks, isKindsC ks = true → q (.str ks) m
theorem rl__law_some_kinds : ∀ ds m q xf, sp__law_some_kinds ds m q xf → ds.length = ["_law_bag_here"].length := fun ds m q xf ⟨d, e, _⟩ => by rw [e]; rfl
theorem rp__law_some_kinds : ∀ ds m q xf, sp__law_some_kinds ds m q xf → rd__law_some_kinds (xdD xf) (enD q) (nvs N__law_some_kinds ds) m := by
  rintro ds m q xf ⟨b, rfl, hb, k⟩
  unfold rd__law_some_kinds N__law_some_kinds
  walk_at "rd"
  refine ⟨_, _, rfl, hb, by decide, by decide, fun r h0 h1 => ?_⟩
  walk_at "rd"
  refine ite2 (fun _ => rt_same (k _ (by decide))) fun _ => ite2 (fun _ => ?_) fun _ => ?_
  · refine ⟨_, _, rfl, hb, by decide, by decide, fun r2 g0 g1 => ?_⟩
    walk_at "rd"
    obtain ⟨c, hc, ec⟩ := atI_mem (L := [100, 119, 97, 114]) g0 g1
    refine ⟨by rw [sizeLine_eq]; decide, c, ec, rt_same (k _ ?_)⟩
    simp at hc
    rcases hc with rfl | rfl | rfl | rfl <;> decide
  · exact ⟨_, rfl, hb, fun ks hk => rt_same (k ks hk)⟩
end DL

namespace DL
open PySem PySem.Spec PyProof.Rows L2
/-! one of some things, drawn -/
theorem ifF {c : Bool} {A B : Prop} (h : c = false) (k : B) : if c = true then A else B := by
  subst h
  exact k
theorem ifT {c : Bool} {A B : Prop} (h : c = true) (k : A) : if c = true then A else B := by
  subst h
  exact k
local macro_rules | `(tactic| walk_at "rd") => `(tactic| simp only [rSetT, rDct0T, rDct1T, rDc, rLcG, rbClause, rbEmit, rZip2, rZip3, rCallO, gLenD, gLenO, gMaxL, gSortL, gSortLO, rFld, rSetF, rMeth, rMake, rFrzI, rProp, rIsC, rRev, rAllK, rLcK, rLcKO, ew0, ew1, ew2, ew3, ew4, ew5, ew6, rRaise, rTry, xCls, enO, setO, rXf, rIsX, Option.elim_some, Option.elim_none, rSeq, rSet, rAsg, rRet, rRetN, rDrop, rIf, rSkip, rVar, rC, rOp, rUn, rTst, rTru, rNot, rAnd, rOr, rAndV, rOrV, rNotV, rIfE, rChain, rCons, rNil, rTup, rLst, rLstO, rCB, rLM, rSM, rSl, rPart, rNoPart, rAll, rRng1, rRng2, rFor, rCall, rAug, rSetIx, rLenSet, rFmt, rJoined, rJs, rLc, rLcO, rFrz, setAll, rYes, rNever, wipeN, nvs, enD, turnD, gNe, gLt, gLe, gGt, gGe, gIn, gNotIn, gIs, gIsNot, gMod, gFdiv, gPow, gAppend, gPop, gPopAt, gClear, gReverse, gExtend, gJoin, gSplit, nm_T, tp_T, at_0, at_1, at_2, at_3, at_4, at_5, at_6, at_7, ix_0, ix_1, ix_2, ix_3, ix_4, List.map_cons, List.map_nil, List.length_cons, List.length_nil, List.replicate, List.cons_append, List.nil_append, List.getElem?_cons_zero, List.getElem?_cons_succ, List.set_cons_zero, List.set_cons_succ, Option.some.injEq, exists_eq_left', exists_eq_left, exists_and_left, D.int.injEq, D.str.injEq, D.bl.injEq, D.ref.injEq, D.tup.injEq, D.lst.injEq, MO.lst.injEq, List.cons.injEq, and_true, true_and, if_true, if_false, Bool.false_eq_true, Nat.reduceSub, Nat.reduceAdd, reduceIte, reduceCtorEq, mset_same, mset_mset, Bool.not_true, Bool.not_false, imp_self, implies_true, not_false_eq_true, forall_const, ev0, ev1, ev2, ev3, ev4, ev5, ev6, ev7, ev8, ev9, ev10, ev11, ev12, ev13, ev14, ev15, ev16, ev17, ev18, ev19, ev20, ev21, ev22, ev23, ev24, ev25, ev26, ev27, ev28, ev29, ev30, ev31, ev32, ev33, ev34, ev35, ev36, ev37, ev38, ev39, ev40, ev41, ev42, ev43, ev44, ev45, ev46, ev47, ev48, ev49, ev50, ev51, ev52, ev53, ev54, ev55, ev56, ev57, ev58, ev59, ev60, ev61, ev62, ev63, ev64, ev65, ev66, ev67, ev68, ev69, ev70, ev71, ev72, ev73, ev74, ev75, ev76, ev77, ev78, ev79, ev80, ev81, ev82, ev83, ev84, ev85, ev86, ev87, ev88, ev89, ev90, ev91, ev92, ev93, ev94, ev95, ev96, ev97, ev98, ev99, ev100, ev101, ev102, ev103, ev104, ev105, ev106, ev107, ev108, ev109, ev110, ev111, ev112, ev113, ev114, ev115, ev116, ev117, ev118, ev119, ev120, ev121, ev122, ev123, ev124, ev125, ev126, ev127, ev128, ev129, ev130, ev131, ev132, ev133, ev134, ev135, ev136, ev137, ev138, ev139, ev140, ev141, ev142, ev143, ev144, ev145, ev146, ev147, ev148, ev149, ev150, ev151, ev152, ev153, ev154, ev155, ev156, ev157, ev158, ev159, ev160, ev161, ev162])
local macro_rules | `(tactic| walk_at "rq") => `(tactic| simp only [rSetT, rDct0T, rDct1T, rDc, rLcG, rbClause, rbEmit, rZip2, rZip3, rCallO, gLenD, gLenO, gMaxL, gSortL, gSortLO, rFld, rSetF, rMeth, rMake, rFrzI, rProp, rIsC, rRev, rAllK, rLcK, rLcKO, ew0, ew1, ew2, ew3, ew4, ew5, ew6, rRaise, rTry, xCls, enO, setO, rXf, rIsX, Option.elim_some, Option.elim_none, rSeq, rSet, rAsg, rRet, rRetN, rDrop, rIf, rSkip, rVar, rC, rOp, rUn, rTst, rTru, rNot, rAnd, rOr, rAndV, rOrV, rNotV, rIfE, rChain, rCons, rNil, rTup, rLst, rLstO, rCB, rLM, rSM, rSl, rPart, rNoPart, rAll, rRng1, rRng2, rFor, rCall, rAug, rSetIx, rLenSet, rFmt, rJoined, rJs, rLc, rLcO, rFrz, setAll, rYes, rNever, wipeN, nvs, enD, turnD, gNe, gLt, gLe, gGt, gGe, gIn, gNotIn, gIs, gIsNot, gMod, gFdiv, gPow, gAppend, gPop, gPopAt, gClear, gReverse, gExtend, gJoin, gSplit, nm_T, tp_T, at_0, at_1, at_2, at_3, at_4, at_5, at_6, at_7, ix_0, ix_1, ix_2, ix_3, ix_4, List.map_cons, List.map_nil, List.length_cons, List.length_nil, List.replicate, List.cons_append, List.nil_append, List.getElem?_cons_zero, List.getElem?_cons_succ, List.set_cons_zero, List.set_cons_succ, Option.some.injEq, exists_eq_left', exists_eq_left, exists_and_left, D.int.injEq, D.str.injEq, D.bl.injEq, D.ref.injEq, D.tup.injEq, D.lst.injEq, MO.lst.injEq, List.cons.injEq, and_true, true_and, if_true, if_false, Bool.false_eq_true, Nat.reduceSub, Nat.reduceAdd, reduceIte, reduceCtorEq, mset_same, mset_mset, Bool.not_true, Bool.not_false, imp_self, implies_true, not_false_eq_true, forall_const, ev0, ev1, ev2, ev3, ev4, ev5, ev6, ev7, ev8, ev9, ev10, ev11, ev12, ev13, ev14, ev15, ev16, ev17, ev18, ev19, ev20, ev21, ev22, ev23, ev24, ev25, ev26, ev27, ev28, ev29, ev30, ev31, ev32, ev33, ev34, ev35, ev36, ev37, ev38, ev39, ev40, ev41, ev42, ev43, ev44, ev45, ev46, ev47, ev48, ev49, ev50, ev51, ev52, ev53, ev54, ev55, ev56, ev57, ev58, ev59, ev60, ev61, ev62, ev63, ev64, ev65, ev66, ev67, ev68, ev69, ev70, ev71, ev72, ev73, ev74, ev75, ev76, ev77, ev78, ev79, ev80, ev81, ev82, ev83, ev84, ev85, ev86, ev87, ev88, ev89, ev90, ev91, ev92, ev93, ev94, ev95, ev96, ev97, ev98, ev99, ev100, ev101, ev102, ev103, ev104, ev105, ev106, ev107, ev108, ev109, ev110, ev111, ev112, ev113, ev114, ev115, ev116, ev117, ev118, ev119, ev120, ev121, ev122, ev123, ev124, ev125, ev126, ev127, ev128, ev129, ev130, ev131, ev132, ev133, ev134, ev135, ev136, ev137, ev138, ev139, ev140, ev141, ev142, ev143, ev144, ev145, ev146, ev147, ev148, ev149, ev150, ev151, ev152, ev153, ev154, ev155, ev156, ev157, ev158, ev159, ev160, ev161, ev162, Int.reduceEq, Int.reduceNe, Int.reduceLT, Int.reduceLE, Int.reduceNeg, decide_true, decide_false])
def N__law_pick : List Str := ["_law_bag_here", "_law_items"]
def rd__law_pick : RS := rRet (rOp gIx (rVar 1) (rCall sp__law_draw (rCons (rVar 0) (rCons (rCB gLen (rCons (rVar 1) (rNil))) (rNil)))))

def sp__law_pick : SpD := fun ds m q _ => ∃ b x items, ds = [.ref b, x] ∧ m b = some (.inv Bag) ∧ lstOf x m = some items ∧ 0 < items.length ∧ items.length < 1000000 ∧ ∀ y ∈ items, q y m
theorem rl__law_pick : ∀ ds m q xf, sp__law_pick ds m q xf → ds.length = ["_law_bag_here", "_law_items"].length := fun ds m q xf ⟨b, s, _, e, _⟩ => by rw [e]; rfl
theorem rp__law_pick : ∀ ds m q xf, sp__law_pick ds m q xf → rd__law_pick (xdD xf) (enD q) (nvs N__law_pick ds) m := by
  rintro ds m q xf ⟨b, x, items, rfl, hb, hx, h0, h1, k⟩
  unfold rd__law_pick N__law_pick
  cases x with
  | lst L =>
    cases hx
    walk_at "rd"
    refine ⟨_, _, rfl, hb, by omega, by omega, fun r r0 r1 => ?_⟩
    walk_at "rd"
    obtain ⟨y, hy, ey⟩ := atI_mem r0 r1
    exact ⟨y, ey, rt_same (k y hy)⟩
  | ref p =>
    have hx : moLst (m p) = some items := hx
    walk_at "rd"
    refine ⟨items, hx, _, _, rfl, hb, by omega, by omega, fun r r0 r1 => ?_⟩
    walk_at "rd"
    obtain ⟨y, hy, ey⟩ := atI_mem r0 r1
    exact ⟨items, hx, y, ey, rt_same (k y hy)⟩
  | _ => cases hx
end DL

namespace DL
open PySem PySem.Spec PyProof.Rows L2
/-! limits -/
local macro_rules | `(tactic| walk_at "rd") => `(tactic| simp only [rSetT, rDct0T, rDct1T, rDc, rLcG, rbClause, rbEmit, rZip2, rZip3, rCallO, gLenD, gLenO, gMaxL, gSortL, gSortLO, rFld, rSetF, rMeth, rMake, rFrzI, rProp, rIsC, rRev, rAllK, rLcK, rLcKO, ew0, ew1, ew2, ew3, ew4, ew5, ew6, rRaise, rTry, xCls, enO, setO, rXf, rIsX, Option.elim_some, Option.elim_none, rSeq, rSet, rAsg, rRet, rRetN, rDrop, rIf, rSkip, rVar, rC, rOp, rUn, rTst, rTru, rNot, rAnd, rOr, rAndV, rOrV, rNotV, rIfE, rChain, rCons, rNil, rTup, rLst, rLstO, rCB, rLM, rSM, rSl, rPart, rNoPart, rAll, rRng1, rRng2, rFor, rCall, rAug, rSetIx, rLenSet, rFmt, rJoined, rJs, rLc, rLcO, rFrz, setAll, rYes, rNever, wipeN, nvs, enD, turnD, gNe, gLt, gLe, gGt, gGe, gIn, gNotIn, gIs, gIsNot, gMod, gFdiv, gPow, gAppend, gPop, gPopAt, gClear, gReverse, gExtend, gJoin, gSplit, nm_T, tp_T, at_0, at_1, at_2, at_3, at_4, at_5, at_6, at_7, ix_0, ix_1, ix_2, ix_3, ix_4, List.map_cons, List.map_nil, List.length_cons, List.length_nil, List.replicate, List.cons_append, List.nil_append, List.getElem?_cons_zero, List.getElem?_cons_succ, List.set_cons_zero, List.set_cons_succ, Option.some.injEq, exists_eq_left', exists_eq_left, exists_and_left, D.int.injEq, D.str.injEq, D.bl.injEq, D.ref.injEq, D.tup.injEq, D.lst.injEq, MO.lst.injEq, List.cons.injEq, and_true, true_and, if_true, if_false, Bool.false_eq_true, Nat.reduceSub, Nat.reduceAdd, reduceIte, reduceCtorEq, mset_same, mset_mset, Bool.not_true, Bool.not_false, imp_self, implies_true, not_false_eq_true, forall_const, ev0, ev1, ev2, ev3, ev4, ev5, ev6, ev7, ev8, ev9, ev10, ev11, ev12, ev13, ev14, ev15, ev16, ev17, ev18, ev19, ev20, ev21, ev22, ev23, ev24, ev25, ev26, ev27, ev28, ev29, ev30, ev31, ev32, ev33, ev34, ev35, ev36, ev37, ev38, ev39, ev40, ev41, ev42, ev43, ev44, ev45, ev46, ev47, ev48, ev49, ev50, ev51, ev52, ev53, ev54, ev55, ev56, ev57, ev58, ev59, ev60, ev61, ev62, ev63, ev64, ev65, ev66, ev67, ev68, ev69, ev70, ev71, ev72, ev73, ev74, ev75, ev76, ev77, ev78, ev79, ev80, ev81, ev82, ev83, ev84, ev85, ev86, ev87, ev88, ev89, ev90, ev91, ev92, ev93, ev94, ev95, ev96, ev97, ev98, ev99, ev100, ev101, ev102, ev103, ev104, ev105, ev106, ev107, ev108, ev109, ev110, ev111, ev112, ev113, ev114, ev115, ev116, ev117, ev118, ev119, ev120, ev121, ev122, ev123, ev124, ev125, ev126, ev127, ev128, ev129, ev130, ev131, ev132, ev133, ev134, ev135, ev136, ev137, ev138, ev139, ev140, ev141, ev142, ev143, ev144, ev145, ev146, ev147, ev148, ev149, ev150, ev151, ev152, ev153, ev154, ev155, ev156, ev157, ev158, ev159, ev160, ev161, ev162])
local macro_rules | `(tactic| walk_at "rq") => `(tactic| simp only [rSetT, rDct0T, rDct1T, rDc, rLcG, rbClause, rbEmit, rZip2, rZip3, rCallO, gLenD, gLenO, gMaxL, gSortL, gSortLO, rFld, rSetF, rMeth, rMake, rFrzI, rProp, rIsC, rRev, rAllK, rLcK, rLcKO, ew0, ew1, ew2, ew3, ew4, ew5, ew6, rRaise, rTry, xCls, enO, setO, rXf, rIsX, Option.elim_some, Option.elim_none, rSeq, rSet, rAsg, rRet, rRetN, rDrop, rIf, rSkip, rVar, rC, rOp, rUn, rTst, rTru, rNot, rAnd, rOr, rAndV, rOrV, rNotV, rIfE, rChain, rCons, rNil, rTup, rLst, rLstO, rCB, rLM, rSM, rSl, rPart, rNoPart, rAll, rRng1, rRng2, rFor, rCall, rAug, rSetIx, rLenSet, rFmt, rJoined, rJs, rLc, rLcO, rFrz, setAll, rYes, rNever, wipeN, nvs, enD, turnD, gNe, gLt, gLe, gGt, gGe, gIn, gNotIn, gIs, gIsNot, gMod, gFdiv, gPow, gAppend, gPop, gPopAt, gClear, gReverse, gExtend, gJoin, gSplit, nm_T, tp_T, at_0, at_1, at_2, at_3, at_4, at_5, at_6, at_7, ix_0, ix_1, ix_2, ix_3, ix_4, List.map_cons, List.map_nil, List.length_cons, List.length_nil, List.replicate, List.cons_append, List.nil_append, List.getElem?_cons_zero, List.getElem?_cons_succ, List.set_cons_zero, List.set_cons_succ, Option.some.injEq, exists_eq_left', exists_eq_left, exists_and_left, D.int.injEq, D.str.injEq, D.bl.injEq, D.ref.injEq, D.tup.injEq, D.lst.injEq, MO.lst.injEq, List.cons.injEq, and_true, true_and, if_true, if_false, Bool.false_eq_true, Nat.reduceSub, Nat.reduceAdd, reduceIte, reduceCtorEq, mset_same, mset_mset, Bool.not_true, Bool.not_false, imp_self, implies_true, not_false_eq_true, forall_const, ev0, ev1, ev2, ev3, ev4, ev5, ev6, ev7, ev8, ev9, ev10, ev11, ev12, ev13, ev14, ev15, ev16, ev17, ev18, ev19, ev20, ev21, ev22, ev23, ev24, ev25, ev26, ev27, ev28, ev29, ev30, ev31, ev32, ev33, ev34, ev35, ev36, ev37, ev38, ev39, ev40, ev41, ev42, ev43, ev44, ev45, ev46, ev47, ev48, ev49, ev50, ev51, ev52, ev53, ev54, ev55, ev56, ev57, ev58, ev59, ev60, ev61, ev62, ev63, ev64, ev65, ev66, ev67, ev68, ev69, ev70, ev71, ev72, ev73, ev74, ev75, ev76, ev77, ev78, ev79, ev80, ev81, ev82, ev83, ev84, ev85, ev86, ev87, ev88, ev89, ev90, ev91, ev92, ev93, ev94, ev95, ev96, ev97, ev98, ev99, ev100, ev101, ev102, ev103, ev104, ev105, ev106, ev107, ev108, ev109, ev110, ev111, ev112, ev113, ev114, ev115, ev116, ev117, ev118, ev119, ev120, ev121, ev122, ev123, ev124, ev125, ev126, ev127, ev128, ev129, ev130, ev131, ev132, ev133, ev134, ev135, ev136, ev137, ev138, ev139, ev140, ev141, ev142, ev143, ev144, ev145, ev146, ev147, ev148, ev149, ev150, ev151, ev152, ev153, ev154, ev155, ev156, ev157, ev158, ev159, ev160, ev161, ev162, Int.reduceEq, Int.reduceNe, Int.reduceLT, Int.reduceLE, Int.reduceNeg, decide_true, decide_false])
def N_is_whole : List Str := ["value"]
def rd_is_whole : RS := rRet (rAndV (rCB gIsi (rCons (rVar 0) (rCons (rC (.ty "int")) (rNil)))) (rNotV (rCB gIsi (rCons (rVar 0) (rCons (rC (.ty "bool")) (rNil))))))

def wholeD : D → Bool
  | .int _ => true
  | _ => false
theorem ty_int {d : D} {m : Mem} (h : tyD d m = some "int") : ∃ i, d = .int i := by
  cases d with
  | int i => exact ⟨i, rfl⟩
  | str cs => simp [tyD] at h
  | non => simp [tyD] at h
  | bl _ => simp [tyD] at h
  | tup _ => simp [tyD] at h
  | dct t k => cases t <;> simp [tyD] at h
  | _ =>
    simp only [tyD] at h
    generalize lstOf _ m = o at h
    cases o <;> simp [tyL] at h
theorem ty_bl {d : D} {m : Mem} (h : tyD d m = some "bool") : ∃ b, d = .bl b := by
  cases d with
  | bl i => exact ⟨i, rfl⟩
  | str cs => simp [tyD] at h
  | non => simp [tyD] at h
  | int _ => simp [tyD] at h
  | tup _ => simp [tyD] at h
  | dct t k => cases t <;> simp [tyD] at h
  | _ =>
    simp only [tyD] at h
    generalize lstOf _ m = o at h
    cases o <;> simp [tyL] at h
def sp_is_whole : SpD := fun ds m q _ => ∃ d a, ds = [d] ∧ tyD d m = some a ∧ q (.bl (wholeD d)) m
theorem rl_is_whole : ∀ ds m q xf, sp_is_whole ds m q xf → ds.length = ["value"].length := fun ds m q xf ⟨d, _, e, _⟩ => by rw [e]; rfl
theorem whole_ty {d : D} {m : Mem} {a : String} (h : tyD d m = some a) : wholeD d = (isTy a "int" && !isTy a "bool") := by
  by_cases h1 : a = "int"
  · subst h1
    obtain ⟨i, rfl⟩ := ty_int h
    rfl
  · by_cases h2 : a = "bool"
    · subst h2
      obtain ⟨b, rfl⟩ := ty_bl h
      rfl
    · have e : isTy a "int" = false := by
        unfold isTy
        simp [h1, h2]
      rw [e]
      cases d with
      | int i => exact absurd (Option.some.inj (h.symm.trans (rfl : tyD (.int i) m = some "int"))) h1
      | _ => rfl
theorem rp_is_whole : ∀ ds m q xf, sp_is_whole ds m q xf → rd_is_whole (xdD xf) (enD q) (nvs N_is_whole ds) m := by
  rintro ds m q xf ⟨d, a, rfl, ha, k⟩
  unfold rd_is_whole N_is_whole
  rw [whole_ty ha] at k
  walk_at "rd"
  refine ⟨a, ha, by decide, ?_⟩
  cases h : isTy a "int"
  · rw [h] at k
    exact rt_same k
  · rw [h] at k
    rw [if_pos rfl]
    exact ⟨a, ha, by decide, rt_same k⟩
def N_is_integer : List Str := ["value", "least"]
def rd_is_integer : RS := rRet (rAndV (rCall sp_is_whole (rCons (rVar 0) (rNil))) (rOp gGe (rVar 0) (rVar 1)))

def geD : D → Int → Bool
  | .int i, l => decide (l ≤ i)
  | _, _ => false
def sp_is_integer : SpD := fun ds m q _ => ∃ d a l, ds = [d, .int l] ∧ tyD d m = some a ∧ q (.bl (geD d l)) m
theorem rl_is_integer : ∀ ds m q xf, sp_is_integer ds m q xf → ds.length = ["value", "least"].length := fun ds m q xf ⟨d, _, _, e, _⟩ => by rw [e]; rfl
theorem rp_is_integer : ∀ ds m q xf, sp_is_integer ds m q xf → rd_is_integer (xdD xf) (enD q) (nvs N_is_integer ds) m := by
  rintro ds m q xf ⟨d, a, l, rfl, ha, k⟩
  unfold rd_is_integer N_is_integer
  walk_at "rd"
  refine ⟨d, a, rfl, ha, _, rfl, ?_⟩
  cases d with
  | int i =>
    rw [if_pos (show wholeD (.int i) = true from rfl)]
    walk_at "rd"
    exact rt_same k
  | _ => exact rt_same k
def N_is_between : List Str := ["value", "least", "most"]
def rd_is_between : RS := rRet (rAndV (rCall sp_is_integer (rCons (rVar 0) (rCons (rVar 1) (rNil)))) (rOp gLe (rVar 0) (rVar 2)))

def betD : D → Int → Int → Bool
  | .int i, lo, hi => decide (lo ≤ i) && decide (i ≤ hi)
  | _, _, _ => false
def sp_is_between : SpD := fun ds m q _ => ∃ d a lo hi, ds = [d, .int lo, .int hi] ∧ tyD d m = some a ∧ q (.bl (betD d lo hi)) m
theorem rl_is_between : ∀ ds m q xf, sp_is_between ds m q xf → ds.length = ["value", "least", "most"].length := fun ds m q xf ⟨d, _, _, _, e, _⟩ => by rw [e]; rfl
theorem rp_is_between : ∀ ds m q xf, sp_is_between ds m q xf → rd_is_between (xdD xf) (enD q) (nvs N_is_between ds) m := by
  rintro ds m q xf ⟨d, a, lo, hi, rfl, ha, k⟩
  unfold rd_is_between N_is_between
  walk_at "rd"
  refine ⟨d, a, _, rfl, ha, _, rfl, ?_⟩
  cases d with
  | int i =>
    have k : q (.bl (decide (lo ≤ i) && decide (i ≤ hi))) m := k
    show (if decide (lo ≤ i) = true then (_ : Prop) else _)
    cases h : decide (lo ≤ i)
    · rw [h] at k
      exact rt_same k
    · rw [h] at k
      rw [if_pos rfl]
      walk_at "rd"
      exact rt_same k
  | _ => exact rt_same k
def N_is_way : List Str := ["value", "length"]
def rd_is_way : RS := rSeq (rIf (rOr (rNot (rTst (rCB gIsi (rCons (rVar 0) (rCons (rC (.ty "list")) (rNil)))))) (rNot (rTst (rChain gLe gLe (rC (.int 1)) (rCB gLen (rCons (rVar 0) (rNil))) (rC (.int 2)))))) (rRet (rC (.bl false))) (rSkip))
  (rRet (rCB gAll (rCons (rLcK (rAllK (rVar 0)) (.nm 1) (rYes) (rCall sp_is_between (rCons (rVar 1) (rCons (rC (.int 1)) (rCons (rC (.int 12)) (rNil))))) [1]) (rNil))))

def wayD : D → Bool
  | .lst ds => decide (1 ≤ ds.length) && decide (ds.length ≤ 2) && ds.all fun d => betD d 1 12
  | _ => false
theorem Vw.bet {m : Mem} {x y : D} {lo hi : Int} (h : Vw m x y) : betD x lo hi = betD y lo hi := by
  cases h <;> rfl
theorem Vw.ty {m : Mem} {x y : D} (h : Vw m x y) : ∃ a, tyD x m = some a ∧ tyD y m = some a := by
  cases h with
  | sca e => cases x <;> simp [DL.sca] at e <;> exact ⟨_, rfl, rfl⟩
  | tup r => exact ⟨_, rfl, rfl⟩
  | lst r => exact ⟨_, rfl, rfl⟩
  | ref e r =>
    refine ⟨"list", ?_, rfl⟩
    show tyL (moLst (m _)) = _
    rw [e]
    rfl
theorem Vws.len {m : Mem} : ∀ {xs ys : List D}, Vws m xs ys → xs.length = ys.length
  | _, _, .nil => rfl
  | _, _, .cons _ r => by rw [List.length_cons, List.length_cons, Vws.len r]
theorem Vws.mem {m : Mem} : ∀ {xs ys : List D} {x : D}, Vws m xs ys → x ∈ xs → ∃ y ∈ ys, Vw m x y
  | _, _, x, .cons a r, h => by
    rcases List.mem_cons.mp h with rfl | h
    · exact ⟨_, List.mem_cons_self, a⟩
    · obtain ⟨y, h1, h2⟩ := Vws.mem r h
      exact ⟨y, List.mem_cons_of_mem _ h1, h2⟩
theorem Vws.bets {m : Mem} {lo hi : Int} : ∀ {xs ys : List D}, Vws m xs ys → xs.map (fun d => betD d lo hi) = ys.map fun d => betD d lo hi
  | _, _, .nil => rfl
  | _, _, .cons a r => by rw [List.map_cons, List.map_cons, a.bet, Vws.bets r]
theorem Vw.seq {m : Mem} {x : D} {ys : List D} (h : Vw m x (.lst ys)) : ∃ xs, lstOf x m = some xs ∧ Vws m xs ys ∧ ∀ q : List D → (Mem → Prop) → Mem → Prop, (∀ C : Mem → Prop, C m → (∀ P acc, m P = none → C (mset m P (.lst acc))) → q xs C m) → gAllK x m q := by
  cases h with
  | sca e => simp [DL.sca] at e
  | lst r => exact ⟨_, rfl, r, fun q h => h _ trivial fun _ _ _ => trivial⟩
  | ref e r =>
    rename_i p xs
    refine ⟨xs, by show moLst (m p) = _; rw [e]; rfl, r, fun q h => ⟨xs, e, h _ e fun P acc hP => ?_⟩⟩
    rw [mset_ne fun z => by rw [z, hP] at e; cases e]
    exact e
theorem fm_some {α β : Type} (f : α → β) (l : List α) : l.filterMap (fun x => some (f x)) = l.map f := by
  rw [← List.filterMap_eq_map]
  rfl
theorem bls_of (f : D → Bool) (l : List D) : bls (l.map fun d => .bl (f d)) = some (l.map f) := by
  have := bls_map (l.map f)
  rw [List.map_map] at this
  exact this
theorem gLen_seq {x : D} {m : Mem} {xs : List D} {q : QD} (h : lstOf x m = some xs) (k : q (.int xs.length) m) : gLen [x] m q := by
  cases x with
  | lst ds =>
    cases h
    walk_at "rd"
    exact k
  | ref p =>
    walk_at "rd"
    exact ⟨xs, h, k⟩
  | _ => cases h
def sp_is_way : SpD := fun ds m q _ => ∃ d d', ds = [d] ∧ Vw m d d' ∧ (∀ xs, d' = .lst xs → xs.length ≤ 1000000) ∧ q (.bl (wayD d')) m
theorem rl_is_way : ∀ ds m q xf, sp_is_way ds m q xf → ds.length = ["value"].length := fun ds m q xf ⟨d, _, e, _⟩ => by rw [e]; rfl
theorem way_no {d : D} {m : Mem} {a : String} (h : tyD d m = some a) (ha : a ≠ "list") : wayD d = false := by
  cases d with
  | lst ds => exact absurd (Option.some.inj (h.symm.trans (rfl : tyD (.lst ds) m = some "list"))) ha
  | _ => rfl
theorem isTy_no {a : String} (h : a ≠ "list") : isTy a "list" = false := by
  unfold isTy
  simp [h]
theorem ty_lst {d d' : D} {m : Mem} (v : Vw m d d') (h : tyD d' m = some "list") : ∃ xs, d' = .lst xs := by
  cases v with
  | sca e =>
    cases d <;> simp [DL.sca] at e <;> simp [tyD] at h
  | tup r => simp [tyD] at h
  | lst r => exact ⟨_, rfl⟩
  | ref e r => exact ⟨_, rfl⟩
theorem rp_is_way : ∀ ds m q xf, sp_is_way ds m q xf → rd_is_way (xdD xf) (enD q) (nvs N_is_way ds) m := by
  rintro ds m q xf ⟨d, d', rfl, v, hz, k⟩
  unfold rd_is_way N_is_way
  obtain ⟨a, t1, t2⟩ := v.ty
  walk_at "rd"
  refine ⟨a, t1, by decide, ?_⟩
  by_cases h : a = "list"
  · subst h
    obtain ⟨ys, rfl⟩ := ty_lst v t2
    obtain ⟨xs, e1, r, go⟩ := v.seq
    have hl := r.len
    have hz := hz ys rfl
    simp only [show isTy "list" "list" = true by decide, Bool.not_true, Bool.false_eq_true, if_false]
    refine gLen_seq e1 ?_
    walk_at "rd"
    by_cases h1 : 1 ≤ ys.length ∧ ys.length ≤ 2
    · rw [if_pos (decide_eq_true (by omega))]
      simp only [show decide ((xs.length : Int) ≤ 2) = true from decide_eq_true (by omega), Bool.not_true, Bool.false_eq_true, if_false]
      refine go _ fun C hC hC2 => comp_goK (fun d => some (.bl (betD d 1 12))) (by omega) (fun P hP acc => hC2 P acc hP) (fun P hP x hx acc hl2 kk hk => ?_) fun P hP => ?_
      · obtain ⟨y, hy, vy⟩ := r.mem hx
        obtain ⟨b, tx, _⟩ := (vy.sub (m' := mset m P (.lst acc)) fun p ds e => by rw [mset_ne fun z => by rw [z, hP] at e; cases e]; exact e).ty
        walk_at "rd"
        exact ⟨x, b, _, _, rfl, tx, put_ok hl2 hk⟩
      · rw [fm_some, mdel_mset hP]
        refine ⟨_, mset_same, _, bls_of _ xs, rt_same ?_⟩
        rw [r.bets]
        have e : wayD (.lst ys) = (ys.map fun d => betD d 1 12).all id := by
          show (decide (1 ≤ ys.length) && decide (ys.length ≤ 2) && ys.all fun d => betD d 1 12) = _
          rw [decide_eq_true h1.1, decide_eq_true h1.2, List.all_map]
          rfl
        rw [e] at k
        exact k
    · have e : wayD (.lst ys) = false := by
        show (decide (1 ≤ ys.length) && decide (ys.length ≤ 2) && ys.all fun d => betD d 1 12) = _
        rw [← Bool.decide_and, decide_eq_false h1]
        rfl
      rw [e] at k
      by_cases h2 : 1 ≤ ys.length
      · rw [if_pos (decide_eq_true (by omega))]
        simp only [show decide ((xs.length : Int) ≤ 2) = false from decide_eq_false (by omega), Bool.not_false, if_true]
        exact rt_same k
      · rw [if_neg (by simp; omega)]
        exact rt_same k
  · rw [isTy_no h]
    rw [way_no t2 h] at k
    exact rt_same k
def N_Limit___init__ : List Str := ["self", "kinds", "most", "ways", "way", "letter"]
def rd_Limit___init__ : RS := rSeq (rDrop (rCall sp_check_kinds (rCons (rVar 1) (rNil))))
  (rSeq (rIf (rNot (rTst (rCall sp_is_between (rCons (rVar 2) (rCons (rC (.int 0)) (rCons (rC (.int 40)) (rNil))))))) (rRaise "BadMost" (rVar 2)) (rSkip))
  (rSeq (rIf (rOr (rNot (rTst (rCB gIsi (rCons (rVar 3) (rCons (rC (.ty "list")) (rNil)))))) (rOr (rNot (rTst (rChain gLe gLe (rC (.int 1)) (rCB gLen (rCons (rVar 3) (rNil))) (rC (.int 2))))) (rNot (rTst (rCB gAll (rCons (rLcK (rAllK (rVar 3)) (.nm 4) (rYes) (rCall sp_is_way (rCons (rVar 4) (rNil))) [4]) (rNil))))))) (rRaise "BadWays" (rVar 3)) (rSkip))
  (rSeq (rSetF "Limit" "letters" (rVar 0) (rSM gJoin (rC (.str [])) (rCons (rLc (rAll (rC (.str [100, 119, 97, 114]))) (.nm 5) (rTst (rOp gIn (rVar 5) (rVar 1))) (rVar 5) [5]) (rNil))))
  (rSeq (rSetF "Limit" "bound" (rVar 0) (rVar 2))
  (rSetF "Limit" "ends" (rVar 0) (rLcK (rAllK (rVar 3)) (.nm 4) (rYes) (rCB gListA (rCons (rVar 4) (rNil))) [4]))))))

def waysD : D → Bool
  | .lst ds => decide (1 ≤ ds.length) && decide (ds.length ≤ 2) && ds.all wayD
  | _ => false
/-- the letters in their order -/
def lettersC (cs : List Nat) : List Nat := [100, 119, 97, 114].filter fun c => decide (c ∈ cs)
def lettersD : D → D
  | .str cs => .str (lettersC cs)
  | d => d
def limF (k b w : D) : List (Str × D) := [("letters", lettersD k), ("bound", b), ("ends", w)]
def outL (p : Addr) (k b w w' : D) (m : Mem) (q : QD) (xf : XF) : Bool → Bool → Bool → Prop
  | true, true, true => q .non (mset m p (.ins "Limit" (limF k b w')))
  | true, true, false => xf "BadWays" [("given", w)] m
  | true, false, _ => xf "BadMost" [("given", b)] m
  | false, _, _ => xf "BadKinds" [("given", k)] m
/-- not too long at any depth that is looked at -/
def shortW : D → Bool
  | .lst ds => decide (ds.length ≤ 1000000) && ds.all fun d => match d with
    | .lst es => decide (es.length ≤ 1000000)
    | _ => true
  | _ => true
def sp_Limit___init__ : SpD := fun ds m q xf => ∃ p k b w w' a, ds = [.ref p, k, b, w] ∧ m p = some (.ins "Limit" []) ∧ Anyv k m ∧ tyD b m = some a ∧ Vw m w w' ∧ shortW w' = true ∧ outL p k b w w' m q xf (isKindsD k) (betD b 0 40) (waysD w')
theorem rl_Limit___init__ : ∀ ds m q xf, sp_Limit___init__ ds m q xf → ds.length = ["self", "kinds", "most", "ways"].length := fun ds m q xf ⟨_, _, _, _, _, _, e, _⟩ => by rw [e]; rfl
theorem ways_no {d : D} {m : Mem} {a : String} (h : tyD d m = some a) (ha : a ≠ "list") : waysD d = false := by
  cases d with
  | lst ds => exact absurd (Option.some.inj (h.symm.trans (rfl : tyD (.lst ds) m = some "list"))) ha
  | _ => rfl
theorem Vws.same {m : Mem} {lo hi : Int} : ∀ {xs ys : List D}, Vws m xs ys → (ys.all fun d => betD d lo hi) = true → xs = ys
  | _, _, .nil, _ => rfl
  | _, _, .cons a r, h => by
    rw [List.all_cons, Bool.and_eq_true] at h
    rw [Vws.same r h.2]
    congr 1
    cases a with
    | sca e => rfl
    | tup _ => exact absurd h.1 (by simp [betD])
    | lst _ => exact absurd h.1 (by simp [betD])
    | ref _ _ => exact absurd h.1 (by simp [betD])
theorem wayD_lst (ds : List D) : wayD (.lst ds) = (decide (1 ≤ ds.length) && decide (ds.length ≤ 2) && ds.all fun d => betD d 1 12) := rfl
theorem way_seen {m : Mem} {x y : D} (h : Vw m x y) : wayD (seen x m) = wayD y := by
  cases h with
  | sca e => cases x <;> simp [DL.sca] at e <;> rfl
  | tup r => rfl
  | lst r =>
    show wayD (.lst _) = wayD (.lst _)
    rw [wayD_lst, wayD_lst]
    have e := r.bets (lo := 1) (hi := 12)
    have e2 := congrArg (fun l => l.all id) e
    simp only [List.all_map] at e2
    rw [r.len]
    congr 1
  | ref e r =>
    rename_i p ds es
    have e1 : seen (.ref p) m = .lst ds := by
      show moSeen (.ref p) (m p) = _
      rw [e]
      rfl
    rw [e1, wayD_lst, wayD_lst]
    have e := r.bets (lo := 1) (hi := 12)
    have e2 := congrArg (fun l => l.all id) e
    simp only [List.all_map] at e2
    rw [r.len]
    congr 1
theorem seen_way {m : Mem} {x y : D} (h : Vw m x y) (hw : wayD y = true) : ∃ es, y = .lst es ∧ lstOf x m = some es := by
  cases h with
  | sca e => cases x <;> simp [DL.sca] at e <;> simp [wayD] at hw
  | tup r => simp [wayD] at hw
  | lst r =>
    have hw2 := hw
    rw [wayD_lst] at hw2
    rw [Bool.and_eq_true] at hw2
    have := Vws.same r hw2.2
    subst this
    exact ⟨_, rfl, rfl⟩
  | ref e r =>
    have hw2 := hw
    rw [wayD_lst] at hw2
    rw [Bool.and_eq_true] at hw2
    have := Vws.same r hw2.2
    subst this
    refine ⟨_, rfl, ?_⟩
    show moLst (m _) = _
    rw [e]
    rfl
theorem gListA_seq {x : D} {m : Mem} {xs : List D} {q : QD} (h : lstOf x m = some xs) (k : q (.lst xs) m) : gListA [x] m q := by
  cases x with
  | lst ds =>
    cases h
    walk_at "rd"
    exact k
  | ref p =>
    walk_at "rd"
    exact ⟨xs, h, k⟩
  | _ => cases h
def pickC (cs : List Nat) : D → Option D
  | .str [c] => if decide (c ∈ cs) = true then some (.str [c]) else none
  | _ => none
theorem pickC_at (cs : List Nat) (c : Nat) : pickC cs (.str [c]) = if decide (c ∈ cs) = true then some (.str [c]) else none := rfl
theorem chars_pick (cs : List Nat) : ∀ l : List Nat, (chars l).filterMap (pickC cs) = chars (l.filter fun c => decide (c ∈ cs))
  | [] => rfl
  | c :: l => by
    show (D.str [c] :: chars l).filterMap (pickC cs) = _
    by_cases h : decide (c ∈ cs) = true
    · rw [List.filterMap_cons_some (show pickC cs (.str [c]) = some (.str [c]) by rw [pickC_at, if_pos h]), chars_pick cs l, List.filter_cons, if_pos h]
      rfl
    · rw [List.filterMap_cons_none (show pickC cs (.str [c]) = none by rw [pickC_at, if_neg h]), chars_pick cs l, List.filter_cons, if_neg h]
theorem kinds_str {d : D} (h : isKindsD d = true) : ∃ cs, d = .str cs ∧ isKindsC cs = true := by
  cases d with
  | str cs => exact ⟨cs, rfl, h⟩
  | _ => cases h
theorem putD_len (f : Str) (d : D) : ∀ fs : List (Str × D), (putD f d fs).length ≤ fs.length + 1
  | [] => Nat.le_refl _
  | (g, x) :: r => by
    unfold putD
    by_cases h : g = f
    · rw [if_pos h, List.length_cons, List.length_cons]
      omega
    · rw [if_neg h, List.length_cons, List.length_cons]
      have := putD_len f d r
      omega
theorem Vws.lists {m : Mem} : ∀ {xs ys : List D}, Vws m xs ys → ys.all wayD = true → xs.filterMap (fun d => (lstOf d m).map D.lst) = ys
  | _, _, .nil, _ => rfl
  | _, _, .cons a r, h => by
    rw [List.all_cons, Bool.and_eq_true] at h
    obtain ⟨es, rfl, e⟩ := seen_way a h.1
    rw [List.filterMap_cons_some (by rw [e]; rfl), Vws.lists r h.2]
theorem rp_Limit___init__ : ∀ ds m q xf, sp_Limit___init__ ds m q xf → rd_Limit___init__ (xdD xf) (enD q) (nvs N_Limit___init__ ds) m := by
  rintro ds m q xf ⟨p, kd, b, w, w', a, rfl, hp, hk, hb, v, hsh, k⟩
  unfold rd_Limit___init__ N_Limit___init__
  walk_at "rd"
  refine ⟨kd, rfl, hk, ?_⟩
  cases h1 : isKindsD kd
  · rw [h1] at k
    exact xd_same (n := []) k
  refine ⟨b, a, _, _, rfl, hb, ?_⟩
  cases h2 : betD b 0 40
  · rw [h1, h2] at k
    walk_at "rd"
    exact xd_same k
  walk_at "rd"
  obtain ⟨t, t1, t2⟩ := v.ty
  refine ⟨t, t1, by decide, ?_⟩
  rw [h1, h2] at k
  by_cases ht : t ≠ "list"
  · rw [isTy_no ht]
    rw [ways_no t2 ht] at k
    exact xd_same (n := []) k
  have ht := Decidable.not_not.mp ht
  subst ht
  obtain ⟨ys, rfl⟩ := ty_lst v t2
  obtain ⟨xs, e1, r, go⟩ := v.seq
  have hl := r.len
  simp only [show isTy "list" "list" = true by decide, Bool.not_true, Bool.false_eq_true, if_false]
  unfold shortW at hsh
  rw [Bool.and_eq_true] at hsh
  have hy := of_decide_eq_true hsh.1
  refine gLen_seq e1 ?_
  walk_at "rd"
  by_cases h3 : ¬ 1 ≤ ys.length
  · rw [if_neg (by simp; omega)]
    have e : waysD (.lst ys) = false := by
      show (decide (1 ≤ ys.length) && decide (ys.length ≤ 2) && ys.all wayD) = _
      rw [decide_eq_false h3]
      rfl
    rw [e] at k
    exact xd_same k
  have h3 := Decidable.not_not.mp h3
  rw [if_pos (decide_eq_true (by omega))]
  by_cases h4 : ¬ ys.length ≤ 2
  · simp only [show decide ((xs.length : Int) ≤ 2) = false from decide_eq_false (by omega), Bool.not_false, if_true]
    have e : waysD (.lst ys) = false := by
      show (decide (1 ≤ ys.length) && decide (ys.length ≤ 2) && ys.all wayD) = _
      rw [decide_eq_false h4, Bool.and_false]
      rfl
    rw [e] at k
    exact xd_same k
  have h4 := Decidable.not_not.mp h4
  simp only [show decide ((xs.length : Int) ≤ 2) = true from decide_eq_true (by omega), Bool.not_true, Bool.false_eq_true, if_false]
  have ew : waysD (.lst ys) = ys.all wayD := by
    show (decide (1 ≤ ys.length) && decide (ys.length ≤ 2) && ys.all wayD) = _
    rw [decide_eq_true h3, decide_eq_true h4]
    rfl
  rw [ew] at k
  have emap : ∀ {xs ys : List D}, Vws m xs ys → xs.map (fun d => wayD (seen d m)) = ys.map wayD := by
    intro xs
    induction xs with
    | nil =>
      intro ys r
      cases r
      rfl
    | cons x xs ih =>
      intro ys r
      cases r with
      | cons a r => rw [List.map_cons, List.map_cons, way_seen a, ih r]
  refine go _ fun C hC hC2 => comp_goK (fun d => some (.bl (wayD (seen d m)))) (by omega) (fun P hP acc => hC2 P acc hP) (fun P hP x hx acc hl2 kk hk => ?_) fun P hP => ?_
  · obtain ⟨y, hy, vy⟩ := r.mem hx
    have vy2 := vy.sub (m' := mset m P (.lst acc)) fun p ds e => by rw [mset_ne fun z => by rw [z, hP] at e; cases e]; exact e
    have hsy := List.all_eq_true.mp hsh.2 y hy
    walk_at "rd"
    refine ⟨x, y, rfl, vy2, fun zs ez => ?_, ?_⟩
    · subst ez
      simpa using hsy
    · rw [← way_seen vy]
      exact put_ok hl2 hk
  rw [fm_some, mdel_mset hP]
  refine ⟨_, mset_same, _, bls_of _ xs, ?_⟩
  rw [emap r, List.all_map]
  have eall : ys.all (id ∘ wayD) = ys.all wayD := rfl
  rw [eall]
  cases h5 : ys.all wayD
  · rw [h5] at k
    exact xd_same (n := []) k
  rw [h5] at k
  obtain ⟨cs, rfl, hcs⟩ := kinds_str h1
  have hz : sizeLine = 16777216 := sizeLine_eq
  simp only [Bool.not_true, Bool.false_eq_true, if_false]
  refine ⟨⟨_, rfl⟩, comp_go (pickC cs) (by decide) (fun P2 hP2 x hx acc hl2 kk hk => ?_) fun P2 hP2 => ?_⟩
  · obtain ⟨c, _, rfl⟩ := mem_chars hx
    rw [pickC_at] at hk
    walk_at "rd"
    refine ite2 (fun h6 => ?_) fun h6 => ?_
    · rw [if_pos h6] at hk
      exact ⟨hl2, hk⟩
    · rw [if_neg h6] at hk
      exact hk
  rw [chars_pick, mdel_mset hP2]
  refine ⟨_, mset_same, _, txts_chars _, ?_, [], hp, by decide, _, rfl, Nat.lt_of_le_of_lt (putD_len _ _ _) (by decide), ?_⟩
  · rw [sum_ones, Nat.mul_zero, Nat.add_zero]
    exact Nat.le_trans (List.length_filter_le _ _) (by decide)
  rw [joinC_nil, flat_ones]
  have keep : ∀ z : MO, ∀ a ds, m a = some (.lst ds) → mset m p z a = some (.lst ds) := fun z a ds e => by
    rw [mset_ne fun h => by rw [h, hp] at e; cases e]
    exact e
  have v3 := v.sub (keep (.ins "Limit" (putD "bound" b (putD "letters" (.str (List.filter (fun c => decide (c ∈ cs)) [100, 119, 97, 114])) []))))
  obtain ⟨xs3, e3, r3, go3⟩ := v3.seq
  have hl3 := r3.len
  refine go3 _ fun C hC hC2 => comp_goK (fun d => (lstOf d (mset m p (.ins "Limit" (putD "bound" b (putD "letters" (.str (List.filter (fun c => decide (c ∈ cs)) [100, 119, 97, 114])) []))))).map D.lst) (by omega) (fun P hP acc => hC2 P acc hP) (fun P hP x hx acc hl2 kk hk => ?_) fun P hP => ?_
  · obtain ⟨y, hy, vy⟩ := r3.mem hx
    have hw := List.all_eq_true.mp h5 y hy
    obtain ⟨es, rfl, ex⟩ := seen_way vy hw
    obtain ⟨es2, ey, ex2⟩ := seen_way (vy.sub (m' := mset (mset m p (.ins "Limit" (putD "bound" b (putD "letters" (.str (List.filter (fun c => decide (c ∈ cs)) [100, 119, 97, 114])) [])))) P (.lst acc)) fun a ds e => by rw [mset_ne fun z => by rw [z, hP] at e; cases e]; exact e) hw
    cases ey
    rw [ex] at hk
    walk_at "rd"
    exact gListA_seq ex2 (put_ok hl2 hk)
  rw [r3.lists h5, mdel_mset hP]
  refine ⟨_, mset_same, _, mset_same, Nat.lt_of_le_of_lt (putD_len _ _ _) (Nat.lt_of_le_of_lt (Nat.succ_le_succ (putD_len _ _ _)) (by decide)), ?_⟩
  rw [mset_mset]
  exact rt_same k
def N_Limit_kinds : List Str := ["self"]
def rd_Limit_kinds : RS := rRet (rFld "Limit" "letters" (rVar 0))

def sp_Limit_kinds : SpD := fun ds m q _ => ∃ d fs x, ds = [d] ∧ insOf d m = some (("Limit" : Str), fs) ∧ fs.lookup ("letters" : Str) = some x ∧ q x m
theorem rl_Limit_kinds : ∀ ds m q xf, sp_Limit_kinds ds m q xf → ds.length = ["self"].length := fun ds m q xf ⟨_, _, _, e, _⟩ => by rw [e]; rfl
theorem rp_Limit_kinds : ∀ ds m q xf, sp_Limit_kinds ds m q xf → rd_Limit_kinds (xdD xf) (enD q) (nvs N_Limit_kinds ds) m := by
  rintro ds m q xf ⟨d, fs, x, rfl, h1, h2, k⟩
  unfold rd_Limit_kinds N_Limit_kinds
  walk_at "rd"
  exact ⟨fs, h1, x, h2, rt_same k⟩
def N_Limit_most : List Str := ["self"]
def rd_Limit_most : RS := rRet (rFld "Limit" "bound" (rVar 0))

def sp_Limit_most : SpD := fun ds m q _ => ∃ d fs x, ds = [d] ∧ insOf d m = some (("Limit" : Str), fs) ∧ fs.lookup ("bound" : Str) = some x ∧ q x m
theorem rl_Limit_most : ∀ ds m q xf, sp_Limit_most ds m q xf → ds.length = ["self"].length := fun ds m q xf ⟨_, _, _, e, _⟩ => by rw [e]; rfl
theorem rp_Limit_most : ∀ ds m q xf, sp_Limit_most ds m q xf → rd_Limit_most (xdD xf) (enD q) (nvs N_Limit_most ds) m := by
  rintro ds m q xf ⟨d, fs, x, rfl, h1, h2, k⟩
  unfold rd_Limit_most N_Limit_most
  walk_at "rd"
  exact ⟨fs, h1, x, h2, rt_same k⟩
def N_Limit_same : List Str := ["self", "other"]
def rd_Limit_same : RS := rRet (rOp gEq (rTup (rCons (rFld "Limit" "letters" (rVar 0)) (rCons (rFld "Limit" "bound" (rVar 0)) (rCons (rFld "Limit" "ends" (rVar 0)) (rNil))))) (rTup (rCons (rFld "Limit" "letters" (rVar 1)) (rCons (rFld "Limit" "bound" (rVar 1)) (rCons (rFld "Limit" "ends" (rVar 1)) (rNil))))))

def sp_Limit_same : SpD := fun ds m q _ => ∃ d e k1 b1 w1 k2 b2 w2, ds = [d, e] ∧ insOf d m = some (("Limit" : Str), limF k1 b1 w1) ∧ insOf e m = some (("Limit" : Str), limF k2 b2 w2) ∧ fl 60 (.tup [lettersD k1, b1, w1]) = true ∧ fl 60 (.tup [lettersD k2, b2, w2]) = true ∧ q (.bl (eqD (.tup [lettersD k1, b1, w1]) (.tup [lettersD k2, b2, w2]))) m
theorem rl_Limit_same : ∀ ds m q xf, sp_Limit_same ds m q xf → ds.length = ["self", "other"].length := fun ds m q xf ⟨_, _, _, _, _, _, _, _, e, _⟩ => by rw [e]; rfl
theorem rp_Limit_same : ∀ ds m q xf, sp_Limit_same ds m q xf → rd_Limit_same (xdD xf) (enD q) (nvs N_Limit_same ds) m := by
  rintro ds m q xf ⟨d, e, k1, b1, w1, k2, b2, w2, rfl, h1, h2, f1, f2, k⟩
  unfold rd_Limit_same N_Limit_same
  walk_at "rd"
  exact ⟨_, h1, _, rfl, _, h1, _, rfl, _, h1, _, rfl, by rw [sizeLine_eq]; decide, _, h2, _, rfl, _, h2, _, rfl, _, h2, _, rfl, by rw [sizeLine_eq]; decide, f1, f2, rt_same k⟩
/-- lists of lists, all new -/
inductive Owns (m0 : Mem) (P : Addr) (m : Mem) : List D → List D → Prop
  | nil : Owns m0 P m [] []
  | cons {a : Addr} {es xs ys : List D} : m0 a = none → a ≠ P → m a = some (.lst es) → fls 50 es = true → Owns m0 P m xs ys → Owns m0 P m (.ref a :: xs) (.lst es :: ys)
theorem Owns.sub {m0 m m' : Mem} {P : Addr} (h : ∀ a ds, a ≠ P → m a = some (.lst ds) → m' a = some (.lst ds)) : ∀ {xs ys : List D}, Owns m0 P m xs ys → Owns m0 P m' xs ys
  | _, _, .nil => .nil
  | _, _, .cons a b c d r => .cons a b (h _ _ b c) d (Owns.sub h r)
theorem Owns.app {m0 m : Mem} {P : Addr} : ∀ {xs ys xs' ys' : List D}, Owns m0 P m xs ys → Owns m0 P m xs' ys' → Owns m0 P m (xs ++ xs') (ys ++ ys')
  | _, _, _, _, .nil, h => h
  | _, _, _, _, .cons a b c d r, h => .cons a b c d (Owns.app r h)
theorem Owns.vws {m0 m : Mem} {P : Addr} : ∀ {xs ys : List D}, Owns m0 P m xs ys → Vws m xs ys
  | _, _, .nil => .nil
  | _, _, .cons a b c d r => .cons (.ref c (fls_vw 50 _ d)) (Owns.vws r)
theorem Owns.mem {m0 m : Mem} {P : Addr} : ∀ {xs ys : List D} {x : D}, Owns m0 P m xs ys → x ∈ xs → ∃ a es, x = .ref a ∧ m0 a = none ∧ a ≠ P ∧ m a = some (.lst es) ∧ D.lst es ∈ ys
  | _, _, x, .cons a b c d r, h => by
    rcases List.mem_cons.mp h with rfl | h
    · exact ⟨_, _, rfl, a, b, c, List.mem_cons_self⟩
    · obtain ⟨a, es, h1, h2, h3, h4, h5⟩ := Owns.mem r h
      exact ⟨a, es, h1, h2, h3, h4, List.mem_cons_of_mem _ h5⟩
structure New (m m' : Mem) (P : Addr) (ws : List D) : Prop where
  fresh : m P = none
  sub : ∀ a o, m a = some o → m' a = some o
  ex : ∃ xs, m' P = some (.lst xs) ∧ Owns m P m' xs ws
theorem new_lists {i : Nat} {n : Nv} (hi : i < n.length) {m : Mem} {ws : List D} {k : Addr → Mem → Prop} (hw : ∀ w ∈ ws, ∃ es, w = .lst es ∧ fls 50 es = true) (hl : ws.length ≤ 1000000) (hk : ∀ P m', New m m' P ws → k P m') :
    ∀ P, m P = none → compD (.nm i) rYes (rCB gListAO (rCons (rVar i) rNil)) n P (k P) ws (mset m P (.lst [])) := fun P hP => by
  have hz : sizeLine = 16777216 := sizeLine_eq
  refine comp_step (fun rest m2 => ∃ dn xs, ws = dn ++ rest ∧ m2 P = some (.lst xs) ∧ Owns m P m2 xs dn ∧ (∀ a o, m a = some o → m2 a = some o)) ?_ ?_ _ _ ⟨[], [], rfl, mset_same, .nil, fun a o e => by rw [mset_ne fun z => by rw [z, hP] at e; cases e]; exact e⟩
  · rintro m2 ⟨dn, xs, e, h1, h2, h3⟩
    rw [List.append_nil] at e
    subst e
    exact hk P m2 ⟨hP, h3, xs, h1, h2⟩
  · rintro x rest m2 ⟨dn, xs, e, h1, h2, h3⟩ kk hkk
    obtain ⟨es, rfl, hes⟩ := hw x (by rw [e]; simp)
    unfold turnD
    rw [nm_T]
    show rYes xd0 _ m2 _
    unfold rYes rCB rCons rNil rVar
    simp only [if_true]
    refine ⟨.lst es, by simp [hi], ?_⟩
    walk_at "rd"
    intro p hp
    have hpP : p ≠ P := fun z => by rw [z, h1] at hp; cases hp
    have hl2 := congrArg List.length e
    rw [List.length_append] at hl2
    have hl3 := h2.vws.len
    refine ⟨xs, by rw [mset_ne (Ne.symm hpP)]; exact h1, by omega, hkk _ ⟨dn ++ [.lst es], xs ++ [.ref p], by rw [e]; simp, mset_same, ?_, ?_⟩⟩
    · refine (h2.sub fun a ds ha ea => ?_).app (.cons ?_ hpP (by rw [mset_ne hpP, mset_same]) hes .nil)
      · rw [mset_ne ha, mset_ne fun z => by rw [z, hp] at ea; cases ea]
        exact ea
      · cases e4 : m p with
        | none => rfl
        | some o => rw [h3 p o e4] at hp; cases hp
    · intro a o ea
      rw [mset_ne (show a ≠ P from fun z => by rw [z, hP] at ea; cases ea), mset_ne (show a ≠ p from fun z => by rw [← z, h3 _ _ ea] at hp; cases hp)]
      exact h3 a o ea
def N_Limit_ways : List Str := ["self", "way"]
def rd_Limit_ways : RS := rRet (rLcO (rAll (rFld "Limit" "ends" (rVar 0))) (.nm 1) (rYes) (rCB gListAO (rCons (rVar 1) (rNil))) [1])

def sp_Limit_ways : SpD := fun ds m q _ => ∃ d fs ws, ds = [d] ∧ insOf d m = some (("Limit" : Str), fs) ∧ fs.lookup ("ends" : Str) = some (.lst ws) ∧ (∀ w ∈ ws, ∃ es, w = .lst es ∧ fls 50 es = true) ∧ ws.length ≤ 1000000 ∧ ∀ P m', New m m' P ws → q (.ref P) m'
theorem rl_Limit_ways : ∀ ds m q xf, sp_Limit_ways ds m q xf → ds.length = ["self"].length := fun ds m q xf ⟨_, _, _, e, _⟩ => by rw [e]; rfl
theorem rp_Limit_ways : ∀ ds m q xf, sp_Limit_ways ds m q xf → rd_Limit_ways (xdD xf) (enD q) (nvs N_Limit_ways ds) m := by
  rintro ds m q xf ⟨d, fs, ws, rfl, h1, h2, h3, h4, k⟩
  unfold rd_Limit_ways N_Limit_ways
  walk_at "rd"
  refine ⟨fs, h1, _, h2, ?_⟩
  walk_at "rd"
  exact new_lists (by simp) h3 h4 fun P m' h => rt_same (k P m' h)
end DL

namespace DL
open PySem PySem.Spec PyProof.Rows L2
/-! limits: what their parts are -/
local macro_rules | `(tactic| walk_at "rd") => `(tactic| simp only [rSetT, rDct0T, rDct1T, rDc, rLcG, rbClause, rbEmit, rZip2, rZip3, rCallO, gLenD, gLenO, gMaxL, gSortL, gSortLO, rFld, rSetF, rMeth, rMake, rFrzI, rProp, rIsC, rRev, rAllK, rLcK, rLcKO, ew0, ew1, ew2, ew3, ew4, ew5, ew6, rRaise, rTry, xCls, enO, setO, rXf, rIsX, Option.elim_some, Option.elim_none, rSeq, rSet, rAsg, rRet, rRetN, rDrop, rIf, rSkip, rVar, rC, rOp, rUn, rTst, rTru, rNot, rAnd, rOr, rAndV, rOrV, rNotV, rIfE, rChain, rCons, rNil, rTup, rLst, rLstO, rCB, rLM, rSM, rSl, rPart, rNoPart, rAll, rRng1, rRng2, rFor, rCall, rAug, rSetIx, rLenSet, rFmt, rJoined, rJs, rLc, rLcO, rFrz, setAll, rYes, rNever, wipeN, nvs, enD, turnD, gNe, gLt, gLe, gGt, gGe, gIn, gNotIn, gIs, gIsNot, gMod, gFdiv, gPow, gAppend, gPop, gPopAt, gClear, gReverse, gExtend, gJoin, gSplit, nm_T, tp_T, at_0, at_1, at_2, at_3, at_4, at_5, at_6, at_7, ix_0, ix_1, ix_2, ix_3, ix_4, List.map_cons, List.map_nil, List.length_cons, List.length_nil, List.replicate, List.cons_append, List.nil_append, List.getElem?_cons_zero, List.getElem?_cons_succ, List.set_cons_zero, List.set_cons_succ, Option.some.injEq, exists_eq_left', exists_eq_left, exists_and_left, D.int.injEq, D.str.injEq, D.bl.injEq, D.ref.injEq, D.tup.injEq, D.lst.injEq, MO.lst.injEq, List.cons.injEq, and_true, true_and, if_true, if_false, Bool.false_eq_true, Nat.reduceSub, Nat.reduceAdd, reduceIte, reduceCtorEq, mset_same, mset_mset, Bool.not_true, Bool.not_false, imp_self, implies_true, not_false_eq_true, forall_const, ev0, ev1, ev2, ev3, ev4, ev5, ev6, ev7, ev8, ev9, ev10, ev11, ev12, ev13, ev14, ev15, ev16, ev17, ev18, ev19, ev20, ev21, ev22, ev23, ev24, ev25, ev26, ev27, ev28, ev29, ev30, ev31, ev32, ev33, ev34, ev35, ev36, ev37, ev38, ev39, ev40, ev41, ev42, ev43, ev44, ev45, ev46, ev47, ev48, ev49, ev50, ev51, ev52, ev53, ev54, ev55, ev56, ev57, ev58, ev59, ev60, ev61, ev62, ev63, ev64, ev65, ev66, ev67, ev68, ev69, ev70, ev71, ev72, ev73, ev74, ev75, ev76, ev77, ev78, ev79, ev80, ev81, ev82, ev83, ev84, ev85, ev86, ev87, ev88, ev89, ev90, ev91, ev92, ev93, ev94, ev95, ev96, ev97, ev98, ev99, ev100, ev101, ev102, ev103, ev104, ev105, ev106, ev107, ev108, ev109, ev110, ev111, ev112, ev113, ev114, ev115, ev116, ev117, ev118, ev119, ev120, ev121, ev122, ev123, ev124, ev125, ev126, ev127, ev128, ev129, ev130, ev131, ev132, ev133, ev134, ev135, ev136, ev137, ev138, ev139, ev140, ev141, ev142, ev143, ev144, ev145, ev146, ev147, ev148, ev149, ev150, ev151, ev152, ev153, ev154, ev155, ev156, ev157, ev158, ev159, ev160, ev161, ev162])
local macro_rules | `(tactic| walk_at "rq") => `(tactic| simp only [rSetT, rDct0T, rDct1T, rDc, rLcG, rbClause, rbEmit, rZip2, rZip3, rCallO, gLenD, gLenO, gMaxL, gSortL, gSortLO, rFld, rSetF, rMeth, rMake, rFrzI, rProp, rIsC, rRev, rAllK, rLcK, rLcKO, ew0, ew1, ew2, ew3, ew4, ew5, ew6, rRaise, rTry, xCls, enO, setO, rXf, rIsX, Option.elim_some, Option.elim_none, rSeq, rSet, rAsg, rRet, rRetN, rDrop, rIf, rSkip, rVar, rC, rOp, rUn, rTst, rTru, rNot, rAnd, rOr, rAndV, rOrV, rNotV, rIfE, rChain, rCons, rNil, rTup, rLst, rLstO, rCB, rLM, rSM, rSl, rPart, rNoPart, rAll, rRng1, rRng2, rFor, rCall, rAug, rSetIx, rLenSet, rFmt, rJoined, rJs, rLc, rLcO, rFrz, setAll, rYes, rNever, wipeN, nvs, enD, turnD, gNe, gLt, gLe, gGt, gGe, gIn, gNotIn, gIs, gIsNot, gMod, gFdiv, gPow, gAppend, gPop, gPopAt, gClear, gReverse, gExtend, gJoin, gSplit, nm_T, tp_T, at_0, at_1, at_2, at_3, at_4, at_5, at_6, at_7, ix_0, ix_1, ix_2, ix_3, ix_4, List.map_cons, List.map_nil, List.length_cons, List.length_nil, List.replicate, List.cons_append, List.nil_append, List.getElem?_cons_zero, List.getElem?_cons_succ, List.set_cons_zero, List.set_cons_succ, Option.some.injEq, exists_eq_left', exists_eq_left, exists_and_left, D.int.injEq, D.str.injEq, D.bl.injEq, D.ref.injEq, D.tup.injEq, D.lst.injEq, MO.lst.injEq, List.cons.injEq, and_true, true_and, if_true, if_false, Bool.false_eq_true, Nat.reduceSub, Nat.reduceAdd, reduceIte, reduceCtorEq, mset_same, mset_mset, Bool.not_true, Bool.not_false, imp_self, implies_true, not_false_eq_true, forall_const, ev0, ev1, ev2, ev3, ev4, ev5, ev6, ev7, ev8, ev9, ev10, ev11, ev12, ev13, ev14, ev15, ev16, ev17, ev18, ev19, ev20, ev21, ev22, ev23, ev24, ev25, ev26, ev27, ev28, ev29, ev30, ev31, ev32, ev33, ev34, ev35, ev36, ev37, ev38, ev39, ev40, ev41, ev42, ev43, ev44, ev45, ev46, ev47, ev48, ev49, ev50, ev51, ev52, ev53, ev54, ev55, ev56, ev57, ev58, ev59, ev60, ev61, ev62, ev63, ev64, ev65, ev66, ev67, ev68, ev69, ev70, ev71, ev72, ev73, ev74, ev75, ev76, ev77, ev78, ev79, ev80, ev81, ev82, ev83, ev84, ev85, ev86, ev87, ev88, ev89, ev90, ev91, ev92, ev93, ev94, ev95, ev96, ev97, ev98, ev99, ev100, ev101, ev102, ev103, ev104, ev105, ev106, ev107, ev108, ev109, ev110, ev111, ev112, ev113, ev114, ev115, ev116, ev117, ev118, ev119, ev120, ev121, ev122, ev123, ev124, ev125, ev126, ev127, ev128, ev129, ev130, ev131, ev132, ev133, ev134, ev135, ev136, ev137, ev138, ev139, ev140, ev141, ev142, ev143, ev144, ev145, ev146, ev147, ev148, ev149, ev150, ev151, ev152, ev153, ev154, ev155, ev156, ev157, ev158, ev159, ev160, ev161, ev162, Int.reduceEq, Int.reduceNe, Int.reduceLT, Int.reduceLE, Int.reduceNeg, decide_true, decide_false])
structure GoodT (cs : List Nat) (i : Int) (ws : List D) : Prop where
  kinds : isKindsC cs = true
  lo : 0 ≤ i
  hi : i ≤ 40
  ways : waysD (.lst ws) = true
theorem gEq_self {d : D} {m : Mem} {q : QD} (h : fl 60 d = true) (k : q (.bl true) m) : gEq d d m q := by
  cases d with
  | non => exact k
  | bl b =>
    show q (.bl (decide (b = b))) m
    rw [decide_eq_true rfl]
    exact k
  | int b =>
    show q (.bl (decide (b = b))) m
    rw [decide_eq_true rfl]
    exact k
  | str b =>
    show q (.bl (decide (b = b))) m
    rw [decide_eq_true rfl]
    exact k
  | tup ds => exact ⟨h, h, by rw [show seen (.tup ds) m = .tup ds from rfl, eqD_refl h]; exact k⟩
  | lst ds => exact ⟨h, h, by rw [show seen (.lst ds) m = .lst ds from rfl, eqD_refl h]; exact k⟩
  | _ => simp [fl] at h
theorem frz1_fl {n : Nat} {d : D} (m : Mem) (h : fl n d = true) : frz1 d m = (d, m) := by
  cases d <;> first | rfl | (cases n <;> simp [fl] at h)
theorem frzF_fl {n : Nat} : ∀ (fs : List (Str × D)) (m : Mem), (∀ p ∈ fs, fl n p.2 = true) → frzF fs m = (fs, m)
  | [], m, _ => rfl
  | (f, d) :: fs, m, h => by
    have e := frz1_fl m (h (f, d) List.mem_cons_self)
    have e2 := frzF_fl fs m fun p hp => h p (List.mem_cons_of_mem _ hp)
    unfold frzF
    have e : frz1 d m = (d, m) := e
    rw [e]
    simp only [e2]
theorem kinds_chars {cs : List Nat} (h : isKindsC cs = true) : fl 60 (.str (lettersC cs)) = true := by
  show (lettersC cs).all (fun c => decide (c < 1114112)) = true
  rw [List.all_eq_true]
  intro c hc
  have hc : c ∈ [100, 119, 97, 114] := (List.mem_filter.mp hc).1
  simp only [List.mem_cons, List.not_mem_nil, or_false] at hc
  rcases hc with rfl | rfl | rfl | rfl <;> decide
theorem lim_fl {cs : List Nat} {b w : D} (h : isKindsC cs = true) (f2 : fl 60 b = true) (f3 : fl 60 w = true) : ∀ p ∈ limF (.str cs) b w, fl 60 p.2 = true := by
  intro p hp
  simp only [limF, List.mem_cons, List.not_mem_nil, or_false] at hp
  rcases hp with rfl | rfl | rfl
  · exact kinds_chars h
  · exact f2
  · exact f3
/-- a limit of good parts, made -/
theorem make_lim {cs : List Nat} {b w w' : D} {m : Mem} {q : QD} {xf : XF} (h1 : isKindsC cs = true) (h2 : betD b 0 40 = true) (v : Vw m w w') (f3 : fl 60 w' = true) (h3 : waysD w' = true) (hsh : shortW w' = true) (k : q (.ins "Limit" (limF (.str cs) b w')) m) :
    ∀ p, m p = none → sp_Limit___init__ (.ref p :: ([.str cs, b, w] ++ [])) (mset m p (.ins "Limit" [])) (fun d m2 => d = .non ∧ gFrzI (.ref p) m2 q) xf := by
  intro p hp
  have f2 : fl 60 b = true := by
    cases b with
    | int i => rfl
    | _ => cases h2
  obtain ⟨a, ha⟩ : ∃ a, tyD b (mset m p (.ins "Limit" [])) = some a := by
    cases b with
    | int i => exact ⟨_, rfl⟩
    | _ => cases h2
  refine ⟨p, .str cs, b, w, w', a, rfl, mset_same, any_kinds h1, ha, v.sub fun p' ds e => ?_, hsh, ?_⟩
  · rw [mset_ne fun z => by rw [z, hp] at e; cases e]
    exact e
  · have h1' : isKindsD (.str cs) = true := h1
    rw [h1', h2, h3]
    refine ⟨rfl, _, _, mset_same, ?_⟩
    rw [mset_mset, mdel_mset hp, frzF_fl _ _ (lim_fl h1 f2 f3)]
    exact k
theorem fl_ty {n : Nat} {d : D} {m : Mem} (h : fl n d = true) : ∃ a, tyD d m = some a := by
  cases d <;> first | exact ⟨_, rfl⟩ | (cases n <;> simp [fl] at h)
theorem ways_ex {ws : List D} (h : waysD (.lst ws) = true) : ws.length ≤ 2 ∧ 1 ≤ ws.length ∧ ws.all wayD = true := by
  have h : (decide (1 ≤ ws.length) && decide (ws.length ≤ 2) && ws.all wayD) = true := h
  rw [Bool.and_eq_true, Bool.and_eq_true] at h
  exact ⟨of_decide_eq_true h.1.2, of_decide_eq_true h.1.1, h.2⟩
theorem way_ex {w : D} (h : wayD w = true) : ∃ es, w = .lst es ∧ es.length ≤ 2 ∧ 1 ≤ es.length ∧ ∀ e ∈ es, ∃ i, e = .int i ∧ 1 ≤ i ∧ i ≤ 12 := by
  cases w with
  | lst es =>
    rw [wayD_lst, Bool.and_eq_true, Bool.and_eq_true] at h
    refine ⟨es, rfl, of_decide_eq_true h.1.2, of_decide_eq_true h.1.1, fun e he => ?_⟩
    have hb := List.all_eq_true.mp h.2 e he
    cases e with
    | int i =>
      have hb : (decide ((1 : Int) ≤ i) && decide (i ≤ 12)) = true := hb
      rw [Bool.and_eq_true] at hb
      exact ⟨i, rfl, of_decide_eq_true hb.1, of_decide_eq_true hb.2⟩
    | _ => cases hb
  | _ => cases h
theorem way_fl {k : Nat} {es : List D} (h : wayD (.lst es) = true) : fls k es = true := by
  obtain ⟨es', e, _, _, h⟩ := way_ex h
  cases e
  rw [fls_iff]
  intro d hd
  obtain ⟨i, rfl, _⟩ := h d hd
  rfl
theorem ways_each {ws : List D} (h : waysD (.lst ws) = true) : ∀ w ∈ ws, ∃ es, w = .lst es ∧ fls 50 es = true := fun w hw => by
  have h2 := List.all_eq_true.mp (ways_ex h).2.2 w hw
  obtain ⟨es, rfl, _⟩ := way_ex h2
  exact ⟨es, rfl, way_fl h2⟩
theorem ways_fl {ws : List D} (h : waysD (.lst ws) = true) : fl 60 (.lst ws) = true := by
  show fls 59 ws = true
  rw [fls_iff]
  intro d hd
  have h2 := List.all_eq_true.mp (ways_ex h).2.2 d hd
  obtain ⟨es, rfl, _⟩ := way_ex h2
  exact way_fl h2
theorem ways_short {ws : List D} (h : waysD (.lst ws) = true) : shortW (.lst ws) = true := by
  unfold shortW
  rw [Bool.and_eq_true]
  refine ⟨decide_eq_true (Nat.le_trans (ways_ex h).1 (by decide)), ?_⟩
  rw [List.all_eq_true]
  intro d hd
  have h2 := List.all_eq_true.mp (ways_ex h).2.2 d hd
  obtain ⟨es, rfl, hl, _⟩ := way_ex h2
  exact decide_eq_true (Nat.le_trans hl (by decide))
theorem ways_rev {ws : List D} (h : waysD (.lst ws) = true) : waysD (.lst ws.reverse) = true := by
  obtain ⟨h1, h2, h3⟩ := ways_ex h
  show (decide (1 ≤ ws.reverse.length) && decide (ws.reverse.length ≤ 2) && ws.reverse.all wayD) = true
  rw [List.length_reverse, List.all_reverse, h3, decide_eq_true h2, decide_eq_true h1]
  rfl
theorem New.le {m m' : Mem} {P : Addr} {ws : List D} (h : New m m' P ws) : Sub m m' := fun a o e => ⟨o, h.sub a o e, .refl o⟩
theorem New.vw {m m' : Mem} {P : Addr} {ws : List D} (h : New m m' P ws) : Vw m' (.ref P) (.lst ws) := by
  obtain ⟨xs, e, o⟩ := h.ex
  exact .ref e o.vws
def Ext (m m' : Mem) : Prop := ∀ a o, m a = some o → m' a = some o
abbrev limD (cs : List Nat) (i : Int) (ws : List D) : D := .ins "Limit" (limF (.str cs) (.int i) (.lst ws))
abbrev triD (cs : List Nat) (i : Int) (ws : List D) : D := .tup [.str cs, .int i, .lst ws]
theorem sort_fl {cs : List Nat} (h : isKindsC cs = true) : fl 60 (.lst (chars (cs.mergeSort fun a b => decide (a ≤ b)))) = true := by
  show fls 59 _ = true
  rw [fls_iff]
  intro d hd
  obtain ⟨c, hc, rfl⟩ := mem_chars hd
  have hc : c ∈ cs := List.mem_mergeSort.mp hc
  have hr := kinds_row h
  unfold isRowC at hr
  rw [Bool.and_eq_true] at hr
  have hl : isL c = true := List.all_eq_true.mp hr.2 c hc
  have hl := of_decide_eq_true hl
  simp only [List.mem_cons, List.not_mem_nil, or_false] at hl
  rcases hl with rfl | rfl | rfl | rfl <;> decide
theorem tail_fl {cs : List Nat} {i : Int} {ws : List D} (g : GoodT cs i ws) : fl 60 (.tup [.int i, .lst ws]) = true := by
  show fls 59 [.int i, .lst ws] = true
  rw [fls_iff]
  intro d hd
  simp only [List.mem_cons, List.not_mem_nil, or_false] at hd
  rcases hd with rfl | rfl
  · rfl
  · show fls 58 ws = true
    rw [fls_iff]
    intro d hd
    have h2 := List.all_eq_true.mp (ways_ex g.ways).2.2 d hd
    obtain ⟨es, rfl, _⟩ := way_ex h2
    exact way_fl h2
theorem ix_of {n : Nat} {j : Int} (h0 : 0 ≤ j) (h1 : j < n) : ixN n j = some j.toNat := by
  unfold ixN
  rw [if_pos h0, if_pos (by omega)]
theorem cut_in {α : Type} {xs : List α} {lo hi : Option Int} {x : α} (h : x ∈ cut xs lo hi) : x ∈ xs := List.mem_of_mem_drop (List.mem_of_mem_take h)
theorem cut_len {α : Type} (xs : List α) (lo hi : Option Int) : (cut xs lo hi).length ≤ xs.length := by
  unfold cut
  rw [List.length_take, List.length_drop]
  omega
theorem eqD3 (a b c a' b' c' : D) : eqD (.tup [a, b, c]) (.tup [a', b', c']) = (eqD a a' && eqD (.tup [b, c]) (.tup [b', c'])) := by
  unfold eqD
  simp [toP, toPs, PyData.eqv, PyData.eqvAll]
theorem str_beq (a b : List Nat) : ((⟨a.toArray⟩ : Str) == ⟨b.toArray⟩) = decide (a = b) := by
  rw [Bool.eq_iff_iff]
  simp
theorem eqD_str (a b : List Nat) : eqD (.str a) (.str b) = decide (a = b) := by
  rw [← str_beq]
  unfold eqD
  simp [toP, PyData.eqv]
theorem eqD_chars : ∀ a b : List Nat, eqD (.lst (chars a)) (.lst (chars b)) = true → a = b
  | [], [], _ => rfl
  | [], y :: b, h => by simp [eqD, toP, toPs, PyData.eqv, PyData.eqvAll, chars] at h
  | x :: a, [], h => by simp [eqD, toP, toPs, PyData.eqv, PyData.eqvAll, chars] at h
  | x :: a, y :: b, h => by
    have e : eqD (.lst (chars (x :: a))) (.lst (chars (y :: b))) = (eqD (.str [x]) (.str [y]) && eqD (.lst (chars a)) (.lst (chars b))) := by
      unfold eqD
      simp [toP, toPs, PyData.eqv, PyData.eqvAll, chars]
    rw [e, Bool.and_eq_true, eqD_str] at h
    have h1 := of_decide_eq_true h.1
    rw [eqD_chars a b h.2]
    simp at h1
    rw [h1]
theorem kinds_nodup {cs : List Nat} (h : isKindsC cs = true) : cs.Nodup := by
  unfold isKindsC at h
  simp at h
  exact h.2
theorem kinds_mem {cs : List Nat} (h : isKindsC cs = true) {c : Nat} (hc : c ∈ cs) : c ∈ [100, 119, 97, 114] := by
  have hr := kinds_row h
  unfold isRowC at hr
  rw [Bool.and_eq_true] at hr
  have hl : isL c = true := List.all_eq_true.mp hr.2 c hc
  exact of_decide_eq_true hl
theorem letters_mem {cs : List Nat} (h : isKindsC cs = true) (c : Nat) : c ∈ lettersC cs ↔ c ∈ cs := by
  unfold lettersC
  rw [List.mem_filter]
  constructor
  · intro z
    exact of_decide_eq_true z.2
  · intro z
    exact ⟨kinds_mem h z, decide_eq_true z⟩
theorem sort_perm {a b : List Nat} (h : a.Perm b) : (a.mergeSort fun x y => decide (x ≤ y)) = b.mergeSort fun x y => decide (x ≤ y) := by
  refine List.Perm.eq_of_pairwise (le := fun x y => decide (x ≤ y) = true) (fun x y _ _ h1 h2 => Nat.le_antisymm (of_decide_eq_true h1) (of_decide_eq_true h2)) (List.pairwise_mergeSort ?_ ?_ a) (List.pairwise_mergeSort ?_ ?_ b) (((List.mergeSort_perm _ _).trans h).trans (List.mergeSort_perm _ _).symm)
  · intro x y z h1 h2
    exact decide_eq_true (Nat.le_trans (of_decide_eq_true h1) (of_decide_eq_true h2))
  · intro x y
    rcases Nat.le_total x y with h | h <;> simp [h]
  · intro x y z h1 h2
    exact decide_eq_true (Nat.le_trans (of_decide_eq_true h1) (of_decide_eq_true h2))
  · intro x y
    rcases Nat.le_total x y with h | h <;> simp [h]
theorem same_kinds {c1 c2 : List Nat} (h1 : isKindsC c1 = true) (h2 : isKindsC c2 = true) : eqD (.str (lettersC c1)) (.str (lettersC c2)) = eqD (.lst (chars (c1.mergeSort fun a b => decide (a ≤ b)))) (.lst (chars (c2.mergeSort fun a b => decide (a ≤ b)))) := by
  rw [eqD_str]
  by_cases e : lettersC c1 = lettersC c2
  · rw [decide_eq_true e]
    have p : c1.Perm c2 := (List.perm_ext_iff_of_nodup (kinds_nodup h1) (kinds_nodup h2)).mpr fun c => by rw [← letters_mem h1, ← letters_mem h2, e]
    rw [sort_perm p, eqD_refl (sort_fl h2)]
  · rw [decide_eq_false e]
    cases z : eqD (.lst (chars (c1.mergeSort fun a b => decide (a ≤ b)))) (.lst (chars (c2.mergeSort fun a b => decide (a ≤ b)))) with
    | false => rfl
    | true =>
      have e2 := eqD_chars _ _ z
      have p : c1.Perm c2 := (List.mergeSort_perm c1 fun a b => decide (a ≤ b)).symm.trans (e2 ▸ List.mergeSort_perm c2 fun a b => decide (a ≤ b))
      refine absurd ?_ e
      unfold lettersC
      congr 1
      funext c
      rw [decide_eq_decide]
      exact p.mem_iff
theorem lim3_fl {cs : List Nat} {i : Int} {ws : List D} (g : GoodT cs i ws) : fl 60 (.tup [lettersD (.str cs), .int i, .lst ws]) = true := by
  show fls 59 [.str (lettersC cs), .int i, .lst ws] = true
  have h1 := kinds_chars g.kinds
  have h2 := tail_fl g
  have h2 : fls 59 [.int i, .lst ws] = true := h2
  rw [fls, Bool.and_eq_true]
  exact ⟨h1, h2⟩
theorem gNe_tup {ds : List D} {m : Mem} {q : QD} (h : fl 60 (.tup ds) = true) (k : q (.bl false) m) : gEqB (fun b => !b) (.tup ds) (.tup ds) m q := ⟨h, h, by rw [show seen (.tup ds) m = .tup ds from rfl, eqD_refl h]; exact k⟩
theorem kinds_fl {cs : List Nat} (h : isKindsC cs = true) : fl 60 (.str cs) = true := by
  show cs.all (fun c => decide (c < 1114112)) = true
  rw [List.all_eq_true]
  intro c hc
  have hc := kinds_mem h hc
  simp only [List.mem_cons, List.not_mem_nil, or_false] at hc
  rcases hc with rfl | rfl | rfl | rfl <;> decide
theorem any_ty2 {d : D} {m : Mem} {a : String} (h : tyD d m = some a) (hs : ∀ cs, d = .str cs → cs.length ≤ 1000) : Anyv d m := ⟨⟨a, h⟩, fun cs e => by
  have := hs cs e
  rw [sizeLine_eq]
  omega⟩
end DL

namespace DL
open PySem PySem.Spec PyProof.Rows L2
/-! limits and books, plainly -/
structure Lim where
  cs : List Nat
  b : Int
  ws : List (List Int)
structure Std where
  r : Int
  c : List Int
  p : List (List Int)
/-- a unit is r -/
abbrev uR (u : Nat) : Bool := decide (u = 114)
def markV (w : List Int) (k : Int) (u : Nat) (r : Int) : Int :=
  if k = 1 ∧ u ≠ 114 then 2 else if k = 0 ∧ w.length = 2 ∧ u = 114 ∧ w.head? = some r then 1 else k
def fullV (w : List Int) (k : Int) (r : Int) : Bool := match w.getLast? with
  | some e => decide (e ≤ r) && (decide (w.length = 1) || decide (k = 2))
  | none => false
def marksL (L : Lim) (ks : List Int) (u : Nat) (r : Int) : List Int := (L.ws.zip ks).map fun p => markV p.1 p.2 u r
def fullL (L : Lim) (ks : List Int) (r : Int) : Bool := (L.ws.zip ks).any fun p => fullV p.1 p.2 r
/-- one limit, one unit: the count, the marks, broken? -/
def cntL (L : Lim) (c : Int) (ks : List Int) (u : Nat) (r : Int) : Int × List Int × Bool :=
  let c1 := min (c + if u ∈ L.cs then 1 else 0) (L.b + 1)
  let k1 := marksL L ks u r
  if fullL L k1 r = true then (0, L.ws.map fun _ => 0, decide (u ∈ L.cs) && decide (0 > L.b)) else (c1, k1, decide (u ∈ L.cs) && decide (c1 > L.b))
def allL (Ls : List Lim) (s : Std) (u : Nat) (r : Int) : List (Int × List Int × Bool) := ((Ls.zip s.c).zip s.p).map fun q => cntL q.1.1 q.1.2 q.2 u r
def capL (Ls : List Lim) : Int := 1 + (Ls.flatMap fun L => L.ws.flatten).foldl max 0
def restL (cap : Int) (s : Std) (u : Nat) : Int := if u = 114 then min (s.r + 1) cap else 0
def goalL (Ls : List Lim) (cap : Int) (s : Std) (u : Nat) : Std :=
  ⟨restL cap s u, (allL Ls s u (restL cap s u)).map (·.1), (allL Ls s u (restL cap s u)).map (·.2.1)⟩
def brokL (Ls : List Lim) (cap : Int) (s : Std) (u : Nat) : List Nat := (List.range (allL Ls s u (restL cap s u)).length).filter fun i => ((allL Ls s u (restL cap s u)).map (·.2.2))[i]?.getD false
def freshL (Ls : List Lim) : Std := ⟨0, Ls.map fun _ => 0, Ls.map fun L => L.ws.map fun _ => 0⟩
/-- a limit, a stand as data -/
def wayX (w : List Int) : D := .lst (w.map D.int)
def waysX (ws : List (List Int)) : List D := ws.map wayX
def limX (L : Lim) : D := limD L.cs L.b (waysX L.ws)
def triX (L : Lim) : D := triD L.cs L.b (waysX L.ws)
def tupI (is : List Int) : D := .tup (is.map D.int)
def stdX (s : Std) : D := .tup [.int s.r, tupI s.c, .tup (s.p.map tupI)]
/-- a limit that was made -/
structure GoodL (L : Lim) : Prop where
  kinds : isKindsC L.cs = true
  lo : 0 ≤ L.b
  hi : L.b ≤ 40
  len : 1 ≤ L.ws.length ∧ L.ws.length ≤ 2
  way : ∀ w ∈ L.ws, 1 ≤ w.length ∧ w.length ≤ 2 ∧ ∀ i ∈ w, 1 ≤ i ∧ i ≤ 12
end DL

namespace DL
open PySem PySem.Spec PyProof.Rows L2
/-! limits: one unit -/
local macro_rules | `(tactic| walk_at "rd") => `(tactic| simp only [rSetT, rDct0T, rDct1T, rDc, rLcG, rbClause, rbEmit, rZip2, rZip3, rCallO, gLenD, gLenO, gMaxL, gSortL, gSortLO, rFld, rSetF, rMeth, rMake, rFrzI, rProp, rIsC, rRev, rAllK, rLcK, rLcKO, ew0, ew1, ew2, ew3, ew4, ew5, ew6, rRaise, rTry, xCls, enO, setO, rXf, rIsX, Option.elim_some, Option.elim_none, rSeq, rSet, rAsg, rRet, rRetN, rDrop, rIf, rSkip, rVar, rC, rOp, rUn, rTst, rTru, rNot, rAnd, rOr, rAndV, rOrV, rNotV, rIfE, rChain, rCons, rNil, rTup, rLst, rLstO, rCB, rLM, rSM, rSl, rPart, rNoPart, rAll, rRng1, rRng2, rFor, rCall, rAug, rSetIx, rLenSet, rFmt, rJoined, rJs, rLc, rLcO, rFrz, setAll, rYes, rNever, wipeN, nvs, enD, turnD, gNe, gLt, gLe, gGt, gGe, gIn, gNotIn, gIs, gIsNot, gMod, gFdiv, gPow, gAppend, gPop, gPopAt, gClear, gReverse, gExtend, gJoin, gSplit, nm_T, tp_T, at_0, at_1, at_2, at_3, at_4, at_5, at_6, at_7, ix_0, ix_1, ix_2, ix_3, ix_4, List.map_cons, List.map_nil, List.length_cons, List.length_nil, List.replicate, List.cons_append, List.nil_append, List.getElem?_cons_zero, List.getElem?_cons_succ, List.set_cons_zero, List.set_cons_succ, Option.some.injEq, exists_eq_left', exists_eq_left, exists_and_left, D.int.injEq, D.str.injEq, D.bl.injEq, D.ref.injEq, D.tup.injEq, D.lst.injEq, MO.lst.injEq, List.cons.injEq, and_true, true_and, if_true, if_false, Bool.false_eq_true, Nat.reduceSub, Nat.reduceAdd, reduceIte, reduceCtorEq, mset_same, mset_mset, Bool.not_true, Bool.not_false, imp_self, implies_true, not_false_eq_true, forall_const, ev0, ev1, ev2, ev3, ev4, ev5, ev6, ev7, ev8, ev9, ev10, ev11, ev12, ev13, ev14, ev15, ev16, ev17, ev18, ev19, ev20, ev21, ev22, ev23, ev24, ev25, ev26, ev27, ev28, ev29, ev30, ev31, ev32, ev33, ev34, ev35, ev36, ev37, ev38, ev39, ev40, ev41, ev42, ev43, ev44, ev45, ev46, ev47, ev48, ev49, ev50, ev51, ev52, ev53, ev54, ev55, ev56, ev57, ev58, ev59, ev60, ev61, ev62, ev63, ev64, ev65, ev66, ev67, ev68, ev69, ev70, ev71, ev72, ev73, ev74, ev75, ev76, ev77, ev78, ev79, ev80, ev81, ev82, ev83, ev84, ev85, ev86, ev87, ev88, ev89, ev90, ev91, ev92, ev93, ev94, ev95, ev96, ev97, ev98, ev99, ev100, ev101, ev102, ev103, ev104, ev105, ev106, ev107, ev108, ev109, ev110, ev111, ev112, ev113, ev114, ev115, ev116, ev117, ev118, ev119, ev120, ev121, ev122, ev123, ev124, ev125, ev126, ev127, ev128, ev129, ev130, ev131, ev132, ev133, ev134, ev135, ev136, ev137, ev138, ev139, ev140, ev141, ev142, ev143, ev144, ev145, ev146, ev147, ev148, ev149, ev150, ev151, ev152, ev153, ev154, ev155, ev156, ev157, ev158, ev159, ev160, ev161, ev162])
local macro_rules | `(tactic| walk_at "rq") => `(tactic| simp only [rSetT, rDct0T, rDct1T, rDc, rLcG, rbClause, rbEmit, rZip2, rZip3, rCallO, gLenD, gLenO, gMaxL, gSortL, gSortLO, rFld, rSetF, rMeth, rMake, rFrzI, rProp, rIsC, rRev, rAllK, rLcK, rLcKO, ew0, ew1, ew2, ew3, ew4, ew5, ew6, rRaise, rTry, xCls, enO, setO, rXf, rIsX, Option.elim_some, Option.elim_none, rSeq, rSet, rAsg, rRet, rRetN, rDrop, rIf, rSkip, rVar, rC, rOp, rUn, rTst, rTru, rNot, rAnd, rOr, rAndV, rOrV, rNotV, rIfE, rChain, rCons, rNil, rTup, rLst, rLstO, rCB, rLM, rSM, rSl, rPart, rNoPart, rAll, rRng1, rRng2, rFor, rCall, rAug, rSetIx, rLenSet, rFmt, rJoined, rJs, rLc, rLcO, rFrz, setAll, rYes, rNever, wipeN, nvs, enD, turnD, gNe, gLt, gLe, gGt, gGe, gIn, gNotIn, gIs, gIsNot, gMod, gFdiv, gPow, gAppend, gPop, gPopAt, gClear, gReverse, gExtend, gJoin, gSplit, nm_T, tp_T, at_0, at_1, at_2, at_3, at_4, at_5, at_6, at_7, ix_0, ix_1, ix_2, ix_3, ix_4, List.map_cons, List.map_nil, List.length_cons, List.length_nil, List.replicate, List.cons_append, List.nil_append, List.getElem?_cons_zero, List.getElem?_cons_succ, List.set_cons_zero, List.set_cons_succ, Option.some.injEq, exists_eq_left', exists_eq_left, exists_and_left, D.int.injEq, D.str.injEq, D.bl.injEq, D.ref.injEq, D.tup.injEq, D.lst.injEq, MO.lst.injEq, List.cons.injEq, and_true, true_and, if_true, if_false, Bool.false_eq_true, Nat.reduceSub, Nat.reduceAdd, reduceIte, reduceCtorEq, mset_same, mset_mset, Bool.not_true, Bool.not_false, imp_self, implies_true, not_false_eq_true, forall_const, ev0, ev1, ev2, ev3, ev4, ev5, ev6, ev7, ev8, ev9, ev10, ev11, ev12, ev13, ev14, ev15, ev16, ev17, ev18, ev19, ev20, ev21, ev22, ev23, ev24, ev25, ev26, ev27, ev28, ev29, ev30, ev31, ev32, ev33, ev34, ev35, ev36, ev37, ev38, ev39, ev40, ev41, ev42, ev43, ev44, ev45, ev46, ev47, ev48, ev49, ev50, ev51, ev52, ev53, ev54, ev55, ev56, ev57, ev58, ev59, ev60, ev61, ev62, ev63, ev64, ev65, ev66, ev67, ev68, ev69, ev70, ev71, ev72, ev73, ev74, ev75, ev76, ev77, ev78, ev79, ev80, ev81, ev82, ev83, ev84, ev85, ev86, ev87, ev88, ev89, ev90, ev91, ev92, ev93, ev94, ev95, ev96, ev97, ev98, ev99, ev100, ev101, ev102, ev103, ev104, ev105, ev106, ev107, ev108, ev109, ev110, ev111, ev112, ev113, ev114, ev115, ev116, ev117, ev118, ev119, ev120, ev121, ev122, ev123, ev124, ev125, ev126, ev127, ev128, ev129, ev130, ev131, ev132, ev133, ev134, ev135, ev136, ev137, ev138, ev139, ev140, ev141, ev142, ev143, ev144, ev145, ev146, ev147, ev148, ev149, ev150, ev151, ev152, ev153, ev154, ev155, ev156, ev157, ev158, ev159, ev160, ev161, ev162, Int.reduceEq, Int.reduceNe, Int.reduceLT, Int.reduceLE, Int.reduceNeg, decide_true, decide_false])
def N_Limit_marks_behind : List Str := ["self", "marks", "unit", "rest", "found", "way", "mark"]
def rd_Limit_marks_behind : RS := rSeq (rSet (rLstO (rNil)) 4)
  (rSeq (rFor (rZip2 (rCons (rFld "Limit" "ends" (rVar 0)) (rCons (rVar 1) (rNil)))) (.tp [5, 6]) (rIf (rAnd (rTst (rOp gEq (rVar 6) (rC (.int 1)))) (rTst (rOp gNe (rVar 2) (rC (.str [114]))))) (rDrop (rLM gAppend (rVar 4) (rCons (rC (.int 2)) (rNil)))) (rIf (rAnd (rTst (rOp gEq (rVar 6) (rC (.int 0)))) (rAnd (rTst (rOp gEq (rCB gLen (rCons (rVar 5) (rNil))) (rC (.int 2)))) (rAnd (rTst (rOp gEq (rVar 2) (rC (.str [114])))) (rTst (rOp gEq (rVar 3) (rOp gIx (rVar 5) (rC (.int 0)))))))) (rDrop (rLM gAppend (rVar 4) (rCons (rC (.int 1)) (rNil)))) (rDrop (rLM gAppend (rVar 4) (rCons (rVar 6) (rNil)))))))
  (rRet (rFrz (rVar 4))))

def pairX (p : List Int × Int) : D := .tup [wayX p.1, .int p.2]
theorem zip_pairs (ws : List (List Int)) (ks : List Int) : zipD2 (waysX ws) (ks.map D.int) = (ws.zip ks).map pairX := by
  unfold zipD2 waysX
  rw [List.zip_map, List.map_map]
  rfl
def sp_Limit_marks_behind : SpD := fun ds m q _ => ∃ L ks u r, ds = [limX L, tupI ks, .str [u], .int r] ∧ GoodL L ∧ ks.length ≤ 1000 ∧ q (.lst ((marksL L ks u r).map D.int)) m
theorem rl_Limit_marks_behind : ∀ ds m q xf, sp_Limit_marks_behind ds m q xf → ds.length = ["self", "marks", "unit", "rest"].length := fun ds m q xf ⟨_, _, _, _, e, _⟩ => by rw [e]; rfl
theorem rp_Limit_marks_behind : ∀ ds m q xf, sp_Limit_marks_behind ds m q xf → rd_Limit_marks_behind (xdD xf) (enD q) (nvs N_Limit_marks_behind ds) m := by
  rintro ds m q xf ⟨L, ks, u, r, rfl, g, hks, k⟩
  unfold rd_Limit_marks_behind N_Limit_marks_behind
  have hz : sizeLine = 16777216 := sizeLine_eq
  walk_at "rd"
  refine ⟨by omega, fun P hP => ⟨_, rfl, _, rfl, _, _, ⟨rfl, rfl⟩, _, _, _, rfl, _, rfl, ?_⟩⟩
  rw [show zipD2 (waysX L.ws) (ks.map D.int) = _ from zip_pairs L.ws ks]
  have hlen : (L.ws.zip ks).length ≤ 2 := by
    rw [List.length_zip]
    have := g.len.2
    omega
  have hway : ∀ p ∈ L.ws.zip ks, 1 ≤ p.1.length := fun p hp => (g.way p.1 (List.of_mem_zip hp).1).1
  refine for_step (fun xs n m' => ∃ zs acc y5 y6, xs = zs.map pairX ∧ n = [some (limX L), some (tupI ks), some (.str [u]), some (.int r), some (.ref P), y5, y6] ∧ m' = mset m P (.lst (acc.map D.int)) ∧ acc ++ zs.map (fun p => markV p.1 p.2 u r) = marksL L ks u r ∧ (∀ p ∈ zs, 1 ≤ p.1.length) ∧ acc.length + zs.length ≤ 2) ?_ ?_ _ _ _ ⟨L.ws.zip ks, [], _, _, rfl, rfl, rfl, rfl, hway, by simpa using hlen⟩
  · rintro n m' ⟨zs, acc, y5, y6, ez, rfl, rfl, ea, _, _⟩
    have ez : zs = [] := by
      cases zs with
      | nil => rfl
      | cons _ _ => cases ez
    subst ez
    rw [List.map_nil, List.append_nil] at ea
    walk_at "rd"
    rw [mdel_mset hP, ea]
    exact rt_same k
  · rintro x xs n m' ⟨zs, acc, y5, y6, ez, rfl, rfl, ea, hw, hl⟩ kk hk
    cases zs with
    | nil => cases ez
    | cons p zs =>
      rw [List.map_cons] at ez
      injection ez with ez1 ez2
      subst ez1 ez2
      rw [List.map_cons] at ea
      rw [List.length_cons] at hl
      have hp := hw p List.mem_cons_self
      have put : ∀ v : Int, markV p.1 p.2 u r = v → (acc.map D.int).length < sizeLine ∧ kk [some (limX L), some (tupI ks), some (.str [u]), some (.int r), some (.ref P), some (wayX p.1), some (.int p.2)] (mset m P (.lst (acc.map D.int ++ [.int v]))) := fun v hv => ⟨by rw [List.length_map]; omega, hk _ _ ⟨zs, acc ++ [v], _, _, rfl, rfl, by rw [List.map_append]; rfl, by rw [List.append_assoc, ← hv]; exact ea, fun q hq => hw q (List.mem_cons_of_mem _ hq), by rw [List.length_append, List.length_cons, List.length_nil]; omega⟩⟩
      obtain ⟨w, k0⟩ := p
      obtain ⟨w0, wr, rfl⟩ : ∃ w0 wr, w = w0 :: wr := by
        cases w with
        | nil => exact absurd hp (Nat.not_succ_le_zero 0)
        | cons a b => exact ⟨a, b, rfl⟩
      unfold pairX wayX
      unfold wayX at put
      walk_at "rd"
      have fin : ∀ v : Int, markV (w0 :: wr) k0 u r = v → (∃ ds, List.map D.int acc = ds) ∧ (List.map D.int acc).length < sizeLine ∧ kk [some (limX L), some (tupI ks), some (.str [u]), some (.int r), some (.ref P), some (.lst (.int w0 :: List.map D.int wr)), some (.int k0)] (mset m P (.lst (List.map D.int acc ++ [.int v]))) := fun v hv => ⟨⟨_, rfl⟩, put v hv⟩
      have m2 : k0 = 1 → ¬ u = 114 → markV (w0 :: wr) k0 u r = 2 := fun a b => by
        unfold markV
        rw [if_pos ⟨a, b⟩]
      have m1 : k0 = 0 → wr.length = 1 → u = 114 → r = w0 → markV (w0 :: wr) k0 u r = 1 := fun a b c d => by
        unfold markV
        rw [if_neg (fun z => z.2 c), if_pos ⟨a, by rw [List.length_cons, b], c, by rw [d]; rfl⟩]
      have m0 : ¬ (k0 = 1 ∧ ¬ u = 114) → ¬ (k0 = 0 ∧ wr.length = 1 ∧ u = 114 ∧ r = w0) → markV (w0 :: wr) k0 u r = k0 := fun a b => by
        unfold markV
        rw [if_neg a, if_neg (fun z => b ⟨z.1, by have := z.2.1; rw [List.length_cons] at this; omega, z.2.2.1, by have := z.2.2.2; simp at this; exact this.symm⟩)]
      have hwl : (List.map D.int wr).length = wr.length := List.length_map ..
      rw [hwl]
      refine ite2 (fun h1 => ite2 (fun h2 => fin 2 (m2 (of_decide_eq_true h1) (by simpa using h2))) fun h2 => ?_) fun h1 => ?_
      · have h1 := of_decide_eq_true h1
        refine ite2 (fun h3 => absurd (of_decide_eq_true h3) (by omega)) fun h3 => fin k0 (m0 (fun z => h2 (by simpa using z.2)) fun z => by have := z.1; omega)
      · have h1 : ¬ k0 = 1 := fun z => h1 (decide_eq_true z)
        have n1 : ¬ (k0 = 1 ∧ ¬ u = 114) := fun z => h1 z.1
        refine ite2 (fun h3 => ite2 (fun h4 => ite2 (fun h5 => ite2 (fun h6 => fin 1 (m1 (of_decide_eq_true h3) (by have := of_decide_eq_true h4; omega) (of_decide_eq_true h5) (of_decide_eq_true h6))) fun h6 => fin k0 (m0 n1 fun z => h6 (decide_eq_true z.2.2.2))) fun h5 => fin k0 (m0 n1 fun z => h5 (decide_eq_true z.2.2.1))) fun h4 => fin k0 (m0 n1 fun z => h4 (decide_eq_true (by rw [z.2.1]; rfl)))) fun h3 => fin k0 (m0 n1 fun z => h3 (decide_eq_true z.1))
def N_Limit_is_full : List Str := ["self", "marks", "rest", "way", "mark"]
def rd_Limit_is_full : RS := rSeq (rFor (rZip2 (rCons (rFld "Limit" "ends" (rVar 0)) (rCons (rVar 1) (rNil)))) (.tp [3, 4]) (rIf (rAnd (rTst (rOp gGe (rVar 2) (rOp gIx (rVar 3) (rUn gNeg (rC (.int 1)))))) (rOr (rTst (rOp gEq (rCB gLen (rCons (rVar 3) (rNil))) (rC (.int 1)))) (rTst (rOp gEq (rVar 4) (rC (.int 2)))))) (rRet (rC (.bl true))) (rSkip)))
  (rRet (rC (.bl false)))

def sp_Limit_is_full : SpD := fun ds m q _ => ∃ L ks r, ds = [limX L, .lst (ks.map D.int), .int r] ∧ GoodL L ∧ q (.bl (fullL L ks r)) m
theorem rl_Limit_is_full : ∀ ds m q xf, sp_Limit_is_full ds m q xf → ds.length = ["self", "marks", "rest"].length := fun ds m q xf ⟨_, _, _, e, _⟩ => by rw [e]; rfl
theorem atI_last (w : List Int) (h : 1 ≤ w.length) : ∃ e, w.getLast? = some e ∧ atI (w.map D.int) (-1) = some (.int e) := by
  obtain ⟨e, he⟩ : ∃ e, w.getLast? = some e := by
    cases w with
    | nil => exact absurd h (Nat.not_succ_le_zero 0)
    | cons a b => exact ⟨_, List.getLast?_cons⟩
  refine ⟨e, he, ?_⟩
  unfold atI ixN
  rw [if_neg (by decide), if_pos (by rw [List.length_map]; omega)]
  show (w.map D.int)[_]? = _
  rw [List.getElem?_map]
  have : (-1 + ((w.map D.int).length : Int)).toNat = w.length - 1 := by
    rw [List.length_map]
    omega
  rw [this, ← List.getLast?_eq_getElem?, he]
  rfl
theorem rp_Limit_is_full : ∀ ds m q xf, sp_Limit_is_full ds m q xf → rd_Limit_is_full (xdD xf) (enD q) (nvs N_Limit_is_full ds) m := by
  rintro ds m q xf ⟨L, ks, r, rfl, g, k⟩
  unfold rd_Limit_is_full N_Limit_is_full
  walk_at "rd"
  refine ⟨_, rfl, _, rfl, _, _, ⟨rfl, rfl⟩, _, _, _, rfl, _, rfl, ?_⟩
  rw [show zipD2 (waysX L.ws) (ks.map D.int) = _ from zip_pairs L.ws ks]
  have hway : ∀ p ∈ L.ws.zip ks, 1 ≤ p.1.length := fun p hp => (g.way p.1 (List.of_mem_zip hp).1).1
  refine for_step (fun xs n m' => ∃ zs y5 y6, xs = zs.map pairX ∧ n = [some (limX L), some (.lst (ks.map D.int)), some (.int r), y5, y6] ∧ m' = m ∧ fullL L ks r = zs.any (fun p => fullV p.1 p.2 r) ∧ (∀ p ∈ zs, 1 ≤ p.1.length)) ?_ ?_ _ _ _ ⟨L.ws.zip ks, _, _, rfl, rfl, rfl, rfl, hway⟩
  · rintro n m' ⟨zs, y5, y6, ez, rfl, rfl, ea, _⟩
    have ez : zs = [] := by
      cases zs with
      | nil => rfl
      | cons _ _ => cases ez
    subst ez
    rw [ea] at k
    walk_at "rd"
    exact rt_same k
  · rintro x xs n m' ⟨zs, y5, y6, ez, rfl, rfl, ea, hw⟩ kk hk
    cases zs with
    | nil => cases ez
    | cons p zs =>
      rw [List.map_cons] at ez
      injection ez with ez1 ez2
      subst ez1 ez2
      obtain ⟨w, k0⟩ := p
      have hp : 1 ≤ w.length := hw (w, k0) List.mem_cons_self
      obtain ⟨e, he, ha⟩ := atI_last w hp
      have next : fullV w k0 r = false → kk [some (limX L), some (.lst (ks.map D.int)), some (.int r), some (.lst (w.map D.int)), some (.int k0)] m' := fun hf => hk _ _ ⟨zs, _, _, rfl, rfl, rfl, by rw [ea, List.any_cons]; show (fullV w k0 r || _) = _; rw [hf, Bool.false_or], fun q hq => hw q (List.mem_cons_of_mem _ hq)⟩
      have done : fullV w k0 r = true → rtD q (.bl true) m' := fun hf => by
        rw [ea, List.any_cons] at k
        have k : q (.bl (fullV w k0 r || _)) m' := k
        rw [hf, Bool.true_or] at k
        exact rt_same k
      unfold pairX wayX
      walk_at "rd"
      refine ⟨_, ha, ?_⟩
      have ev : fullV w k0 r = (decide (e ≤ r) && (decide (w.length = 1) || decide (k0 = 2))) := by
        unfold fullV
        rw [he]
      walk_at "rd"
      rw [List.length_map]
      refine ite2 (fun h1 => ite2 (fun h2 => done ?_) fun h2 => ite2 (fun h3 => done ?_) fun h3 => next ?_) fun h1 => next ?_
      · have h2 : w.length = 1 := by
          have := of_decide_eq_true h2
          omega
        rw [ev, h1, decide_eq_true h2]
        rfl
      · rw [ev, h1, h3, Bool.or_true]
        rfl
      · have h2 : ¬ w.length = 1 := fun z => h2 (decide_eq_true (by rw [z]; rfl))
        rw [ev, decide_eq_false h2, Bool.eq_false_iff.mpr h3]
        cases decide (e ≤ r) <;> rfl
      · rw [ev, Bool.eq_false_iff.mpr h1]
        rfl
def N_Limit_counted : List Str := ["self", "count", "marks", "unit", "rest", "begun", "way"]
def rd_Limit_counted : RS := rSeq (rSet (rCB gMin2 (rCons (rOp gAdd (rVar 1) (rCB gInt (rCons (rOp gIn (rVar 3) (rFld "Limit" "letters" (rVar 0))) (rNil)))) (rCons (rOp gAdd (rFld "Limit" "bound" (rVar 0)) (rC (.int 1))) (rNil)))) 1)
  (rSeq (rSet (rMeth "Limit" "marks_behind" sp_Limit_marks_behind [] (rVar 0) (rCons (rVar 2) (rCons (rVar 3) (rCons (rVar 4) (rNil))))) 5)
  (rSeq (rIf (rTst (rMeth "Limit" "is_full" sp_Limit_is_full [] (rVar 0) (rCons (rVar 5) (rCons (rVar 4) (rNil))))) (rSeq (rSet (rC (.int 0)) 1)
  (rSet (rLc (rAll (rFld "Limit" "ends" (rVar 0))) (.nm 6) (rYes) (rC (.int 0)) [6]) 5)) (rSkip))
  (rRet (rTup (rCons (rVar 1) (rCons (rCB gTuple (rCons (rVar 5) (rNil))) (rCons (rAndV (rOp gIn (rVar 3) (rFld "Limit" "letters" (rVar 0))) (rOp gGt (rVar 1) (rFld "Limit" "bound" (rVar 0)))) (rNil))))))))

def cntX (t : Int × List Int × Bool) : D := .tup [.int t.1, tupI t.2.1, .bl t.2.2]
def sp_Limit_counted : SpD := fun ds m q _ => ∃ L c ks u r, ds = [limX L, .int c, tupI ks, .str [u], .int r] ∧ GoodL L ∧ ks.length ≤ 1000 ∧ q (cntX (cntL L c ks u r)) m
theorem rl_Limit_counted : ∀ ds m q xf, sp_Limit_counted ds m q xf → ds.length = ["self", "count", "marks", "unit", "rest"].length := fun ds m q xf ⟨_, _, _, _, _, e, _⟩ => by rw [e]; rfl
theorem rp_Limit_counted : ∀ ds m q xf, sp_Limit_counted ds m q xf → rd_Limit_counted (xdD xf) (enD q) (nvs N_Limit_counted ds) m := by
  rintro ds m q xf ⟨L, c, ks, u, r, rfl, g, hks, k⟩
  unfold rd_Limit_counted N_Limit_counted
  have hz : sizeLine = 16777216 := sizeLine_eq
  walk_at "rd"
  have lt : decide (u ∈ lettersC L.cs) = decide (u ∈ L.cs) := by
    rw [decide_eq_decide]
    exact letters_mem g.kinds u
  refine ⟨_, rfl, _, rfl, ?_⟩
  show gInB (fun b => b) (.str [u]) (.str (lettersC L.cs)) m _
  walk_at "rd"
  refine ⟨_, rfl, _, rfl, ?_⟩
  show gAdd (.int L.b) (.int 1) m _
  walk_at "rd"
  rw [lt]
  have emin : (if L.b + 1 < c + (if decide (u ∈ L.cs) = true then 1 else 0) then L.b + 1 else c + if decide (u ∈ L.cs) = true then 1 else 0) = min (c + if u ∈ L.cs then 1 else 0) (L.b + 1) := by
    simp only [decide_eq_true_eq]
    rw [Int.min_def]
    split <;> split <;> omega
  rw [emin]
  refine ⟨_, rfl, rfl, L, ks, u, r, rfl, g, hks, ?_⟩
  refine ⟨_, rfl, rfl, L, marksL L ks u r, r, rfl, g, _, rfl, ?_⟩
  have hml : (marksL L ks u r).length ≤ 2 := by
    unfold marksL
    rw [List.length_map, List.length_zip]
    have := g.len.2
    omega
  refine ite2 (fun hf => ?_) fun hf => ?_
  · have ek : cntL L c ks u r = (0, L.ws.map (fun _ => 0), decide (u ∈ L.cs) && decide (0 > L.b)) := by
      unfold cntL
      simp only []
      rw [if_pos hf]
    rw [ek] at k
    refine ⟨_, rfl, _, rfl, ?_⟩
    show gAllOf (.lst (waysX L.ws)) m _
    walk_at "rd"
    refine comp_go (fun _ => some (.int 0)) (by unfold waysX; rw [List.length_map]; have := g.len.2; omega) (fun P hP x hx acc hl kk hk => ?_) fun P hP => ?_
    · walk_at "rd"
      exact ⟨hl, hk⟩
    · rw [mdel_mset hP]
      refine ⟨_, mset_same, ?_⟩
      have ez : List.filterMap (fun _ => some (D.int 0)) (waysX L.ws) = (L.ws.map fun _ => (0 : Int)).map D.int := by
        rw [fm_some]
        unfold waysX
        rw [List.map_map, List.map_map]
        rfl
      rw [ez]
      refine ⟨_, rfl, _, rfl, ?_⟩
      show gInB (fun b => b) (.str [u]) (.str (lettersC L.cs)) m _
      walk_at "rd"
      rw [lt]
      cases hu : decide (u ∈ L.cs)
      · rw [hu] at k
        exact ⟨by omega, rt_same (by exact k)⟩
      · rw [hu] at k
        rw [if_pos rfl]
        refine ⟨_, rfl, _, rfl, ?_⟩
        show gCmp _ _ (.int _) (.int L.b) m _
        walk_at "rd"
        exact ⟨by omega, rt_same (by exact k)⟩
  · have ek : cntL L c ks u r = (min (c + if u ∈ L.cs then 1 else 0) (L.b + 1), marksL L ks u r, decide (u ∈ L.cs) && decide (min (c + if u ∈ L.cs then 1 else 0) (L.b + 1) > L.b)) := by
      unfold cntL
      simp only []
      rw [if_neg hf]
    rw [ek] at k
    walk_at "rd"
    refine ⟨_, rfl, _, rfl, ?_⟩
    show gInB (fun b => b) (.str [u]) (.str (lettersC L.cs)) m _
    walk_at "rd"
    rw [lt]
    cases hu : decide (u ∈ L.cs)
    · rw [hu] at k
      exact ⟨by omega, rt_same (by exact k)⟩
    · rw [hu] at k
      rw [if_pos rfl]
      refine ⟨_, rfl, _, rfl, ?_⟩
      show gCmp _ _ (.int _) (.int L.b) m _
      walk_at "rd"
      exact ⟨by omega, rt_same (by exact k)⟩
end DL

namespace DL
open PySem PySem.Spec PyProof.Rows L2
/-! books: one step -/
local macro_rules | `(tactic| walk_at "rd") => `(tactic| simp only [rSetT, rDct0T, rDct1T, rDc, rLcG, rbClause, rbEmit, rZip2, rZip3, rCallO, gLenD, gLenO, gMaxL, gSortL, gSortLO, rFld, rSetF, rMeth, rMake, rFrzI, rProp, rIsC, rRev, rAllK, rLcK, rLcKO, ew0, ew1, ew2, ew3, ew4, ew5, ew6, rRaise, rTry, xCls, enO, setO, rXf, rIsX, Option.elim_some, Option.elim_none, rSeq, rSet, rAsg, rRet, rRetN, rDrop, rIf, rSkip, rVar, rC, rOp, rUn, rTst, rTru, rNot, rAnd, rOr, rAndV, rOrV, rNotV, rIfE, rChain, rCons, rNil, rTup, rLst, rLstO, rCB, rLM, rSM, rSl, rPart, rNoPart, rAll, rRng1, rRng2, rFor, rCall, rAug, rSetIx, rLenSet, rFmt, rJoined, rJs, rLc, rLcO, rFrz, setAll, rYes, rNever, wipeN, nvs, enD, turnD, gNe, gLt, gLe, gGt, gGe, gIn, gNotIn, gIs, gIsNot, gMod, gFdiv, gPow, gAppend, gPop, gPopAt, gClear, gReverse, gExtend, gJoin, gSplit, nm_T, tp_T, at_0, at_1, at_2, at_3, at_4, at_5, at_6, at_7, ix_0, ix_1, ix_2, ix_3, ix_4, List.map_cons, List.map_nil, List.length_cons, List.length_nil, List.replicate, List.cons_append, List.nil_append, List.getElem?_cons_zero, List.getElem?_cons_succ, List.set_cons_zero, List.set_cons_succ, Option.some.injEq, exists_eq_left', exists_eq_left, exists_and_left, D.int.injEq, D.str.injEq, D.bl.injEq, D.ref.injEq, D.tup.injEq, D.lst.injEq, MO.lst.injEq, List.cons.injEq, and_true, true_and, if_true, if_false, Bool.false_eq_true, Nat.reduceSub, Nat.reduceAdd, reduceIte, reduceCtorEq, mset_same, mset_mset, Bool.not_true, Bool.not_false, imp_self, implies_true, not_false_eq_true, forall_const, ev0, ev1, ev2, ev3, ev4, ev5, ev6, ev7, ev8, ev9, ev10, ev11, ev12, ev13, ev14, ev15, ev16, ev17, ev18, ev19, ev20, ev21, ev22, ev23, ev24, ev25, ev26, ev27, ev28, ev29, ev30, ev31, ev32, ev33, ev34, ev35, ev36, ev37, ev38, ev39, ev40, ev41, ev42, ev43, ev44, ev45, ev46, ev47, ev48, ev49, ev50, ev51, ev52, ev53, ev54, ev55, ev56, ev57, ev58, ev59, ev60, ev61, ev62, ev63, ev64, ev65, ev66, ev67, ev68, ev69, ev70, ev71, ev72, ev73, ev74, ev75, ev76, ev77, ev78, ev79, ev80, ev81, ev82, ev83, ev84, ev85, ev86, ev87, ev88, ev89, ev90, ev91, ev92, ev93, ev94, ev95, ev96, ev97, ev98, ev99, ev100, ev101, ev102, ev103, ev104, ev105, ev106, ev107, ev108, ev109, ev110, ev111, ev112, ev113, ev114, ev115, ev116, ev117, ev118, ev119, ev120, ev121, ev122, ev123, ev124, ev125, ev126, ev127, ev128, ev129, ev130, ev131, ev132, ev133, ev134, ev135, ev136, ev137, ev138, ev139, ev140, ev141, ev142, ev143, ev144, ev145, ev146, ev147, ev148, ev149, ev150, ev151, ev152, ev153, ev154, ev155, ev156, ev157, ev158, ev159, ev160, ev161, ev162])
local macro_rules | `(tactic| walk_at "rq") => `(tactic| simp only [rSetT, rDct0T, rDct1T, rDc, rLcG, rbClause, rbEmit, rZip2, rZip3, rCallO, gLenD, gLenO, gMaxL, gSortL, gSortLO, rFld, rSetF, rMeth, rMake, rFrzI, rProp, rIsC, rRev, rAllK, rLcK, rLcKO, ew0, ew1, ew2, ew3, ew4, ew5, ew6, rRaise, rTry, xCls, enO, setO, rXf, rIsX, Option.elim_some, Option.elim_none, rSeq, rSet, rAsg, rRet, rRetN, rDrop, rIf, rSkip, rVar, rC, rOp, rUn, rTst, rTru, rNot, rAnd, rOr, rAndV, rOrV, rNotV, rIfE, rChain, rCons, rNil, rTup, rLst, rLstO, rCB, rLM, rSM, rSl, rPart, rNoPart, rAll, rRng1, rRng2, rFor, rCall, rAug, rSetIx, rLenSet, rFmt, rJoined, rJs, rLc, rLcO, rFrz, setAll, rYes, rNever, wipeN, nvs, enD, turnD, gNe, gLt, gLe, gGt, gGe, gIn, gNotIn, gIs, gIsNot, gMod, gFdiv, gPow, gAppend, gPop, gPopAt, gClear, gReverse, gExtend, gJoin, gSplit, nm_T, tp_T, at_0, at_1, at_2, at_3, at_4, at_5, at_6, at_7, ix_0, ix_1, ix_2, ix_3, ix_4, List.map_cons, List.map_nil, List.length_cons, List.length_nil, List.replicate, List.cons_append, List.nil_append, List.getElem?_cons_zero, List.getElem?_cons_succ, List.set_cons_zero, List.set_cons_succ, Option.some.injEq, exists_eq_left', exists_eq_left, exists_and_left, D.int.injEq, D.str.injEq, D.bl.injEq, D.ref.injEq, D.tup.injEq, D.lst.injEq, MO.lst.injEq, List.cons.injEq, and_true, true_and, if_true, if_false, Bool.false_eq_true, Nat.reduceSub, Nat.reduceAdd, reduceIte, reduceCtorEq, mset_same, mset_mset, Bool.not_true, Bool.not_false, imp_self, implies_true, not_false_eq_true, forall_const, ev0, ev1, ev2, ev3, ev4, ev5, ev6, ev7, ev8, ev9, ev10, ev11, ev12, ev13, ev14, ev15, ev16, ev17, ev18, ev19, ev20, ev21, ev22, ev23, ev24, ev25, ev26, ev27, ev28, ev29, ev30, ev31, ev32, ev33, ev34, ev35, ev36, ev37, ev38, ev39, ev40, ev41, ev42, ev43, ev44, ev45, ev46, ev47, ev48, ev49, ev50, ev51, ev52, ev53, ev54, ev55, ev56, ev57, ev58, ev59, ev60, ev61, ev62, ev63, ev64, ev65, ev66, ev67, ev68, ev69, ev70, ev71, ev72, ev73, ev74, ev75, ev76, ev77, ev78, ev79, ev80, ev81, ev82, ev83, ev84, ev85, ev86, ev87, ev88, ev89, ev90, ev91, ev92, ev93, ev94, ev95, ev96, ev97, ev98, ev99, ev100, ev101, ev102, ev103, ev104, ev105, ev106, ev107, ev108, ev109, ev110, ev111, ev112, ev113, ev114, ev115, ev116, ev117, ev118, ev119, ev120, ev121, ev122, ev123, ev124, ev125, ev126, ev127, ev128, ev129, ev130, ev131, ev132, ev133, ev134, ev135, ev136, ev137, ev138, ev139, ev140, ev141, ev142, ev143, ev144, ev145, ev146, ev147, ev148, ev149, ev150, ev151, ev152, ev153, ev154, ev155, ev156, ev157, ev158, ev159, ev160, ev161, ev162, Int.reduceEq, Int.reduceNe, Int.reduceLT, Int.reduceLE, Int.reduceNeg, decide_true, decide_false])
def N_Book_step : List Str := ["self", "stand", "unit", "rest", "found", "limit", "count", "marks", "goal", "item", "number"]
def rd_Book_step : RS := rSeq (rSet (rIfE (rTst (rOp gEq (rVar 2) (rC (.str [114])))) (rCB gMin2 (rCons (rOp gAdd (rOp gIx (rVar 1) (rC (.int 0))) (rC (.int 1))) (rCons (rFld "Book" "cap" (rVar 0)) (rNil)))) (rC (.int 0))) 3)
  (rSeq (rSet (rLstO (rNil)) 4)
  (rSeq (rFor (rZip3 (rCons (rFld "Book" "rules" (rVar 0)) (rCons (rOp gIx (rVar 1) (rC (.int 1))) (rCons (rOp gIx (rVar 1) (rC (.int 2))) (rNil))))) (.tp [5, 6, 7]) (rDrop (rLM gAppend (rVar 4) (rCons (rMeth "Limit" "counted" sp_Limit_counted [] (rVar 5) (rCons (rVar 6) (rCons (rVar 7) (rCons (rVar 2) (rCons (rVar 3) (rNil)))))) (rNil)))))
  (rSeq (rSet (rTup (rCons (rVar 3) (rCons (rCB gTuple (rCons (rLcK (rAllK (rVar 4)) (.nm 9) (rYes) (rOp gIx (rVar 9) (rC (.int 0))) [9]) (rNil))) (rCons (rCB gTuple (rCons (rLcK (rAllK (rVar 4)) (.nm 9) (rYes) (rOp gIx (rVar 9) (rC (.int 1))) [9]) (rNil))) (rNil))))) 8)
  (rRet (rTup (rCons (rVar 8) (rCons (rCB gTuple (rCons (rLc (rRng1 (rCons (rCB gLen (rCons (rVar 4) (rNil))) (rNil))) (.nm 10) (rTst (rOp gIx (rOp gIx (rVar 4) (rVar 10)) (rC (.int 2)))) (rVar 10) [10]) (rNil))) (rNil))))))))

structure StdOk (Ls : List Lim) (s : Std) : Prop where
  c : s.c.length = Ls.length
  p : s.p.map List.length = Ls.map fun L => L.ws.length
/-- a book's fields that a step looks at -/
structure BookF (fs : List (Str × D)) (Ls : List Lim) (cap : Int) : Prop where
  rules : fs.lookup ("rules" : Str) = some (.tup (Ls.map limX))
  cap : fs.lookup ("cap" : Str) = some (.int cap)
  nos : fs.lookup ("step" : Str) = none
  good : ∀ L ∈ Ls, GoodL L
  len : Ls.length ≤ 4
def brokX (is : List Nat) : D := .tup (is.map fun i => .int ((i : Nat) : Int))
def stepX (Ls : List Lim) (cap : Int) (s : Std) (u : Nat) : D := .tup [stdX (goalL Ls cap s u), brokX (brokL Ls cap s u)]
theorem zip_trips (Ls : List Lim) (s : Std) : zipD3 (Ls.map limX) (s.c.map D.int) (s.p.map tupI) = ((Ls.zip s.c).zip s.p).map fun q => .tup [limX q.1.1, .int q.1.2, tupI q.2] := by
  unfold zipD3
  rw [List.zip_map, List.zip_map, List.map_map]
  rfl
def sp_Book_step : SpD := fun ds m q _ => ∃ d fs Ls cap s u, ds = [d, stdX s, .str [u]] ∧ insOf d m = some (("Book" : Str), fs) ∧ BookF fs Ls cap ∧ StdOk Ls s ∧ q (stepX Ls cap s u) m
theorem rl_Book_step : ∀ ds m q xf, sp_Book_step ds m q xf → ds.length = ["self", "stand", "unit"].length := fun ds m q xf ⟨_, _, _, _, _, _, e, _⟩ => by rw [e]; rfl
theorem insOf_add {d : D} {m : Mem} {P : Addr} {o : MO} {x : Str × List (Str × D)} (hP : m P = none) (h : insOf d m = some x) : insOf d (mset m P o) = some x := by
  cases d with
  | ref p =>
    have h' : (match m p with | some (.ins nm fs) => some (nm, fs) | _ => none) = some x := h
    show (match mset m P o p with | some (.ins nm fs) => some (nm, fs) | _ => none) = some x
    by_cases e : p = P
    · subst e
      rw [hP] at h'
      cases h'
    · rw [mset_ne e]
      exact h'
  | ins _ _ => exact h
  | _ => cases h
def cnt0 : D → Option D
  | .tup (a :: _) => some a
  | _ => none
def cnt1 : D → Option D
  | .tup (_ :: b :: _) => some b
  | _ => none
theorem parts0 : ∀ acc : List (Int × List Int × Bool), (acc.map cntX).filterMap cnt0 = (acc.map (·.1)).map D.int
  | [] => rfl
  | t :: acc => by
    rw [List.map_cons, List.filterMap_cons_some (show cnt0 (cntX t) = some (.int t.1) from rfl), parts0 acc]
    rfl
theorem parts1 : ∀ acc : List (Int × List Int × Bool), (acc.map cntX).filterMap cnt1 = (acc.map (·.2.1)).map tupI
  | [] => rfl
  | t :: acc => by
    rw [List.map_cons, List.filterMap_cons_some (show cnt1 (cntX t) = some (tupI t.2.1) from rfl), parts1 acc]
    rfl
def flagF (acc : List (Int × List Int × Bool)) : D → Option D
  | .int i => if (((acc.map (·.2.2))[i.toNat]?).getD false) = true then some (.int i) else none
  | _ => none
theorem flag_at {acc : List (Int × List Int × Bool)} {i : Nat} (h : i < acc.length) : flagF acc (.int (0 + (i : Int))) = if acc[i].2.2 = true then some (.int (0 + (i : Int))) else none := by
  have e : ((0 : Int) + i).toNat = i := by omega
  show (if (((acc.map (·.2.2))[((0 : Int) + i).toNat]?).getD false) = true then _ else _) = _
  rw [e, List.getElem?_map, List.getElem?_eq_getElem h]
  rfl
theorem filterMap_if {α β : Type} (p : α → Bool) (g : α → β) : ∀ l : List α, (l.filterMap fun x => if p x = true then some (g x) else none) = (l.filter p).map g
  | [] => rfl
  | a :: l => by
    cases h : p a
    · rw [List.filterMap_cons_none (by rw [h]; rfl), filterMap_if p g l, List.filter_cons, h]
      rfl
    · rw [List.filterMap_cons_some (by rw [h]; rfl), filterMap_if p g l, List.filter_cons, h]
      rfl
theorem flags_eq (acc : List (Int × List Int × Bool)) : List.filterMap (flagF acc) (rngD 0 ((acc.map cntX).length : Int).toNat) = ((List.range acc.length).filter fun i => ((acc.map (·.2.2))[i]?).getD false).map fun i => D.int ((i : Nat) : Int) := by
  have e1 : ((acc.map cntX).length : Int).toNat = acc.length := by
    rw [List.length_map]
    omega
  rw [e1]
  unfold rngD
  rw [List.filterMap_map, ← filterMap_if]
  congr 1
  funext i
  show flagF acc (.int (0 + (i : Int))) = _
  show (if (((acc.map (·.2.2))[((0 : Int) + i).toNat]?).getD false) = true then some (D.int (0 + (i : Int))) else none) = _
  rw [show ((0 : Int) + i).toNat = i by omega, Int.zero_add]
theorem rp_Book_step : ∀ ds m q xf, sp_Book_step ds m q xf → rd_Book_step (xdD xf) (enD q) (nvs N_Book_step ds) m := by
  rintro ds m q xf ⟨d, fs, Ls, cap, s, u, rfl, hd, hb, hs, k⟩
  have hz : sizeLine = 16777216 := sizeLine_eq
  have le : ∀ q' : QD, q' (.int (restL cap s u)) m → rIfE (rTst (rOp gEq (rVar 2) (rC (.str [114])))) (rCB gMin2 (rCons (rOp gAdd (rOp gIx (rVar 1) (rC (.int 0))) (rC (.int 1))) (rCons (rFld "Book" "cap" (rVar 0)) (rNil)))) (rC (.int 0)) (xdD xf) (nvs N_Book_step [d, stdX s, .str [u]]) m q' := fun q' h => by
    unfold N_Book_step stdX
    unfold restL at h
    walk_at "rd"
    refine ite2 (fun hu => ?_) fun hu => ?_
    · rw [if_pos (of_decide_eq_true hu)] at h
      refine ⟨fs, hd, _, hb.cap, ?_⟩
      walk_at "rd"
      have e : (if cap < s.r + 1 then cap else s.r + 1) = min (s.r + 1) cap := by
        rw [Int.min_def]
        split <;> split <;> omega
      rw [e]
      exact h
    · rw [if_neg (fun z => hu (decide_eq_true z))] at h
      exact h
  unfold rd_Book_step
  refine le _ ?_
  generalize hr : restL cap s u = rr
  unfold N_Book_step stdX
  walk_at "rd"
  refine ⟨by omega, fun P hP => ⟨fs, insOf_add hP hd, _, hb.rules, _, _, _, ⟨rfl, rfl, rfl⟩, _, _, _, _, rfl, _, rfl, _, rfl, ?_⟩⟩
  rw [show zipD3 (Ls.map limX) (s.c.map D.int) (s.p.map tupI) = _ from zip_trips Ls s]
  have hall : allL Ls s u rr = ((Ls.zip s.c).zip s.p).map fun q => cntL q.1.1 q.1.2 q.2 u rr := rfl
  have hlen : ((Ls.zip s.c).zip s.p).length ≤ 4 := by
    rw [List.length_zip, List.length_zip]
    have := hb.len
    omega
  have hgood : ∀ q ∈ (Ls.zip s.c).zip s.p, GoodL q.1.1 ∧ q.2.length ≤ 1000 := fun q hq => by
    have h1 := List.of_mem_zip hq
    have h2 := List.of_mem_zip h1.1
    refine ⟨hb.good _ h2.1, ?_⟩
    have h3 : q.2.length ∈ s.p.map List.length := List.mem_map_of_mem h1.2
    rw [hs.p] at h3
    obtain ⟨L, hL, e⟩ := List.mem_map.mp h3
    have := (hb.good L hL).len.2
    omega
  refine for_step (fun xs n m' => ∃ zs acc y5 y6 y7, xs = zs.map (fun q => D.tup [limX q.1.1, .int q.1.2, tupI q.2]) ∧ n = [some d, some (stdX s), some (.str [u]), some (.int rr), some (.ref P), y5, y6, y7, none, none, none] ∧ m' = mset m P (.lst (acc.map cntX)) ∧ acc ++ zs.map (fun q => cntL q.1.1 q.1.2 q.2 u rr) = allL Ls s u rr ∧ (∀ q ∈ zs, GoodL q.1.1 ∧ q.2.length ≤ 1000) ∧ acc.length + zs.length ≤ 4) ?_ ?_ _ _ _ ⟨(Ls.zip s.c).zip s.p, [], _, _, _, rfl, rfl, rfl, hall.symm, hgood, by simpa using hlen⟩
  · rintro n m' ⟨zs, acc, y5, y6, y7, ez, rfl, rfl, ea, _, hl⟩
    have ez : zs = [] := by
      cases zs with
      | nil => rfl
      | cons _ _ => cases ez
    subst ez
    rw [List.map_nil, List.append_nil] at ea
    walk_at "rd"
    have hl : acc.length ≤ 4 := by simpa using hl
    have hne : ∀ {Q : Addr}, mset m P (.lst (acc.map cntX)) Q = none → P ≠ Q := fun {Q} h z => by
      rw [← z, mset_same] at h
      cases h
    refine comp_goK cnt0 (by rw [List.length_map]; omega) (fun P1 h1 a => by rw [mset_ne (hne h1), mset_same]) (fun P1 h1 x hx a hla kk hk => ?_) fun P1 h1 => ?_
    · obtain ⟨t, _, rfl⟩ := List.mem_map.mp hx
      unfold cntX
      walk_at "rd"
      exact ⟨hla, hk⟩
    rw [mdel_mset h1, parts0]
    refine ⟨_, mset_same, _, mset_same, ?_⟩
    refine comp_goK cnt1 (by rw [List.length_map]; omega) (fun P2 h2 a => by rw [mset_ne (hne h2), mset_same]) (fun P2 h2 x hx a hla kk hk => ?_) fun P2 h2 => ?_
    · obtain ⟨t, _, rfl⟩ := List.mem_map.mp hx
      unfold cntX
      walk_at "rd"
      exact ⟨hla, hk⟩
    rw [mdel_mset h2, parts1]
    refine ⟨_, mset_same, by omega, acc.map cntX, by rw [mset_same]; rfl, by rw [List.length_map]; omega, by rw [List.length_map]; omega, ?_⟩
    refine comp_go (flagF acc) (by rw [rngD_length, List.length_map]; omega) (fun P3 h3 x hx a hla kk hk => ?_) fun P3 h3 => ?_
    · obtain ⟨i, hi, rfl⟩ := mem_rngD hx
      have hi : i < acc.length := by
        rw [List.length_map] at hi
        omega
      have ei : atI (acc.map cntX) (0 + (i : Int)) = some (cntX acc[i]) := by
        rw [atI_nat (by rw [List.length_map]; exact hi)]
        simp
      rw [flag_at hi] at hk
      walk_at "rd"
      refine ⟨acc.map cntX, by rw [mset_ne (hne h3), mset_same]; rfl, _, ei, ?_⟩
      unfold cntX
      walk_at "rd"
      refine ite2 (fun hb => ?_) fun hb => ?_
      · rw [if_pos hb] at hk
        exact ⟨hla, hk⟩
      · rw [if_neg hb] at hk
        exact hk
    · rw [mdel_mset h3]
      refine ⟨_, mset_same, by omega, rt_sub ((Sub.refl m).add hP) ?_⟩
      have eb : List.filterMap (flagF acc) (rngD 0 ((acc.map cntX).length : Int).toNat) = (brokL Ls cap s u).map fun i => .int ((i : Nat) : Int) := by
        rw [flags_eq]
        unfold brokL
        rw [hr, ← ea]
      rw [eb]
      unfold stepX goalL at k
      rw [hr, ← ea] at k
      exact k
  · rintro x xs n m' ⟨zs, acc, y5, y6, y7, ez, rfl, rfl, ea, hw, hl⟩ kk hk
    cases zs with
    | nil => cases ez
    | cons p zs =>
      rw [List.map_cons] at ez
      injection ez with ez1 ez2
      subst ez1 ez2
      rw [List.map_cons] at ea
      rw [List.length_cons] at hl
      obtain ⟨hp1, hp2⟩ := hw p List.mem_cons_self
      walk_at "rd"
      refine ⟨⟨_, rfl⟩, _, rfl, rfl, p.1.1, p.1.2, p.2, u, rr, rfl, hp1, hp2, acc.map cntX, mset_same, by rw [List.length_map]; omega, ?_⟩
      rw [mset_mset]
      exact hk _ _ ⟨zs, acc ++ [cntL p.1.1 p.1.2 p.2 u rr], _, _, _, rfl, rfl, by rw [List.map_append]; rfl, by rw [List.append_assoc]; exact ea, fun q hq => hw q (List.mem_cons_of_mem _ hq), by rw [List.length_append, List.length_cons, List.length_nil]; omega⟩
end DL

namespace DL
open PySem PySem.Spec PyProof.Rows L2
/-! books that were made -/
local macro_rules | `(tactic| walk_at "rd") => `(tactic| simp only [rSetT, rDct0T, rDct1T, rDc, rLcG, rbClause, rbEmit, rZip2, rZip3, rCallO, gLenD, gLenO, gMaxL, gSortL, gSortLO, rFld, rSetF, rMeth, rMake, rFrzI, rProp, rIsC, rRev, rAllK, rLcK, rLcKO, ew0, ew1, ew2, ew3, ew4, ew5, ew6, rRaise, rTry, xCls, enO, setO, rXf, rIsX, Option.elim_some, Option.elim_none, rSeq, rSet, rAsg, rRet, rRetN, rDrop, rIf, rSkip, rVar, rC, rOp, rUn, rTst, rTru, rNot, rAnd, rOr, rAndV, rOrV, rNotV, rIfE, rChain, rCons, rNil, rTup, rLst, rLstO, rCB, rLM, rSM, rSl, rPart, rNoPart, rAll, rRng1, rRng2, rFor, rCall, rAug, rSetIx, rLenSet, rFmt, rJoined, rJs, rLc, rLcO, rFrz, setAll, rYes, rNever, wipeN, nvs, enD, turnD, gNe, gLt, gLe, gGt, gGe, gIn, gNotIn, gIs, gIsNot, gMod, gFdiv, gPow, gAppend, gPop, gPopAt, gClear, gReverse, gExtend, gJoin, gSplit, nm_T, tp_T, at_0, at_1, at_2, at_3, at_4, at_5, at_6, at_7, ix_0, ix_1, ix_2, ix_3, ix_4, List.map_cons, List.map_nil, List.length_cons, List.length_nil, List.replicate, List.cons_append, List.nil_append, List.getElem?_cons_zero, List.getElem?_cons_succ, List.set_cons_zero, List.set_cons_succ, Option.some.injEq, exists_eq_left', exists_eq_left, exists_and_left, D.int.injEq, D.str.injEq, D.bl.injEq, D.ref.injEq, D.tup.injEq, D.lst.injEq, MO.lst.injEq, List.cons.injEq, and_true, true_and, if_true, if_false, Bool.false_eq_true, Nat.reduceSub, Nat.reduceAdd, reduceIte, reduceCtorEq, mset_same, mset_mset, Bool.not_true, Bool.not_false, imp_self, implies_true, not_false_eq_true, forall_const, ev0, ev1, ev2, ev3, ev4, ev5, ev6, ev7, ev8, ev9, ev10, ev11, ev12, ev13, ev14, ev15, ev16, ev17, ev18, ev19, ev20, ev21, ev22, ev23, ev24, ev25, ev26, ev27, ev28, ev29, ev30, ev31, ev32, ev33, ev34, ev35, ev36, ev37, ev38, ev39, ev40, ev41, ev42, ev43, ev44, ev45, ev46, ev47, ev48, ev49, ev50, ev51, ev52, ev53, ev54, ev55, ev56, ev57, ev58, ev59, ev60, ev61, ev62, ev63, ev64, ev65, ev66, ev67, ev68, ev69, ev70, ev71, ev72, ev73, ev74, ev75, ev76, ev77, ev78, ev79, ev80, ev81, ev82, ev83, ev84, ev85, ev86, ev87, ev88, ev89, ev90, ev91, ev92, ev93, ev94, ev95, ev96, ev97, ev98, ev99, ev100, ev101, ev102, ev103, ev104, ev105, ev106, ev107, ev108, ev109, ev110, ev111, ev112, ev113, ev114, ev115, ev116, ev117, ev118, ev119, ev120, ev121, ev122, ev123, ev124, ev125, ev126, ev127, ev128, ev129, ev130, ev131, ev132, ev133, ev134, ev135, ev136, ev137, ev138, ev139, ev140, ev141, ev142, ev143, ev144, ev145, ev146, ev147, ev148, ev149, ev150, ev151, ev152, ev153, ev154, ev155, ev156, ev157, ev158, ev159, ev160, ev161, ev162])
local macro_rules | `(tactic| walk_at "rq") => `(tactic| simp only [rSetT, rDct0T, rDct1T, rDc, rLcG, rbClause, rbEmit, rZip2, rZip3, rCallO, gLenD, gLenO, gMaxL, gSortL, gSortLO, rFld, rSetF, rMeth, rMake, rFrzI, rProp, rIsC, rRev, rAllK, rLcK, rLcKO, ew0, ew1, ew2, ew3, ew4, ew5, ew6, rRaise, rTry, xCls, enO, setO, rXf, rIsX, Option.elim_some, Option.elim_none, rSeq, rSet, rAsg, rRet, rRetN, rDrop, rIf, rSkip, rVar, rC, rOp, rUn, rTst, rTru, rNot, rAnd, rOr, rAndV, rOrV, rNotV, rIfE, rChain, rCons, rNil, rTup, rLst, rLstO, rCB, rLM, rSM, rSl, rPart, rNoPart, rAll, rRng1, rRng2, rFor, rCall, rAug, rSetIx, rLenSet, rFmt, rJoined, rJs, rLc, rLcO, rFrz, setAll, rYes, rNever, wipeN, nvs, enD, turnD, gNe, gLt, gLe, gGt, gGe, gIn, gNotIn, gIs, gIsNot, gMod, gFdiv, gPow, gAppend, gPop, gPopAt, gClear, gReverse, gExtend, gJoin, gSplit, nm_T, tp_T, at_0, at_1, at_2, at_3, at_4, at_5, at_6, at_7, ix_0, ix_1, ix_2, ix_3, ix_4, List.map_cons, List.map_nil, List.length_cons, List.length_nil, List.replicate, List.cons_append, List.nil_append, List.getElem?_cons_zero, List.getElem?_cons_succ, List.set_cons_zero, List.set_cons_succ, Option.some.injEq, exists_eq_left', exists_eq_left, exists_and_left, D.int.injEq, D.str.injEq, D.bl.injEq, D.ref.injEq, D.tup.injEq, D.lst.injEq, MO.lst.injEq, List.cons.injEq, and_true, true_and, if_true, if_false, Bool.false_eq_true, Nat.reduceSub, Nat.reduceAdd, reduceIte, reduceCtorEq, mset_same, mset_mset, Bool.not_true, Bool.not_false, imp_self, implies_true, not_false_eq_true, forall_const, ev0, ev1, ev2, ev3, ev4, ev5, ev6, ev7, ev8, ev9, ev10, ev11, ev12, ev13, ev14, ev15, ev16, ev17, ev18, ev19, ev20, ev21, ev22, ev23, ev24, ev25, ev26, ev27, ev28, ev29, ev30, ev31, ev32, ev33, ev34, ev35, ev36, ev37, ev38, ev39, ev40, ev41, ev42, ev43, ev44, ev45, ev46, ev47, ev48, ev49, ev50, ev51, ev52, ev53, ev54, ev55, ev56, ev57, ev58, ev59, ev60, ev61, ev62, ev63, ev64, ev65, ev66, ev67, ev68, ev69, ev70, ev71, ev72, ev73, ev74, ev75, ev76, ev77, ev78, ev79, ev80, ev81, ev82, ev83, ev84, ev85, ev86, ev87, ev88, ev89, ev90, ev91, ev92, ev93, ev94, ev95, ev96, ev97, ev98, ev99, ev100, ev101, ev102, ev103, ev104, ev105, ev106, ev107, ev108, ev109, ev110, ev111, ev112, ev113, ev114, ev115, ev116, ev117, ev118, ev119, ev120, ev121, ev122, ev123, ev124, ev125, ev126, ev127, ev128, ev129, ev130, ev131, ev132, ev133, ev134, ev135, ev136, ev137, ev138, ev139, ev140, ev141, ev142, ev143, ev144, ev145, ev146, ev147, ev148, ev149, ev150, ev151, ev152, ev153, ev154, ev155, ev156, ev157, ev158, ev159, ev160, ev161, ev162, Int.reduceEq, Int.reduceNe, Int.reduceLT, Int.reduceLE, Int.reduceNeg, decide_true, decide_false])
def nkI : List Int → List NestedKey
  | [] => []
  | i :: is => .num i :: nkI is
def nkP : List (List Int) → List NestedKey
  | [] => []
  | p :: ps => .tup (nkI p) :: nkP ps
def nkS (s : Std) : NestedKey := .tup [.num s.r, .tup (nkI s.c), .tup (nkP s.p)]
theorem nkI_of : ∀ is : List Int, nkAll (is.map D.int) = some (nkI is)
  | [] => rfl
  | i :: is => by
    rw [List.map_cons, nkAll, nkI_of is]
    rfl
theorem nkP_of : ∀ ps : List (List Int), nkAll (ps.map tupI) = some (nkP ps)
  | [] => rfl
  | p :: ps => by
    rw [List.map_cons, nkAll, nkP_of ps]
    unfold tupI
    rw [nkOf, nkI_of p]
    rfl
theorem nkS_of (s : Std) : nkOf (stdX s) = some (nkS s) := by
  unfold stdX nkS
  rw [nkOf, nkAll, nkAll, nkAll, nkAll, nkOf, nkOf, nkP_of]
  unfold tupI
  rw [nkOf, nkI_of]
  rfl
theorem nkI_inj : ∀ {a b : List Int}, nkI a = nkI b → a = b
  | [], [], _ => rfl
  | [], _ :: _, h => by cases h
  | _ :: _, [], h => by cases h
  | x :: a, y :: b, h => by
    rw [nkI, nkI] at h
    injection h with h1 h2
    injection h1 with h1
    rw [h1, nkI_inj h2]
theorem nkP_inj : ∀ {a b : List (List Int)}, nkP a = nkP b → a = b
  | [], [], _ => rfl
  | [], _ :: _, h => by cases h
  | _ :: _, [], h => by cases h
  | x :: a, y :: b, h => by
    rw [nkP, nkP] at h
    injection h with h1 h2
    injection h1 with h1
    rw [nkI_inj h1, nkP_inj h2]
theorem nkS_inj {a b : Std} (h : nkS a = nkS b) : a = b := by
  unfold nkS at h
  injection h with h
  injection h with h1 h2
  injection h2 with h2 h3
  injection h3 with h3 h4
  injection h1 with h1
  injection h2 with h2
  injection h3 with h3
  cases a
  cases b
  simp only at h1 h2 h3
  rw [h1, nkI_inj h2, nkP_inj h3]
theorem depth_I : ∀ is : List Int, NestedKey.depthAll (nkI is) = 0
  | [] => rfl
  | i :: is => by
    rw [nkI, NestedKey.depthAll, depth_I is]
    rfl
theorem depth_P : ∀ ps : List (List Int), NestedKey.depthAll (nkP ps) ≤ 1
  | [] => Nat.zero_le _
  | p :: ps => by
    rw [nkP, NestedKey.depthAll, NestedKey.depth, depth_I p]
    have := depth_P ps
    omega
theorem depth_S (s : Std) : (nkS s).depth ≤ 8 := by
  unfold nkS
  rw [NestedKey.depth, NestedKey.depthAll, NestedKey.depthAll, NestedKey.depthAll, NestedKey.depthAll, NestedKey.depth, NestedKey.depth, NestedKey.depth, depth_I]
  have := depth_P s.p
  omega
/-- the letters -/
def letC : List Nat := [100, 119, 97, 114]
def rowX (Ls : List Lim) (cap : Int) (s : Std) : D := .dct false (letC.map fun u => (.str [u], stepX Ls cap s u))
theorem row_at (Ls : List Lim) (cap : Int) (s : Std) {u : Nat} (hu : u ∈ letC) : getK (letC.map fun u => (D.str [u], stepX Ls cap s u)) (.inr ⟨#[u]⟩) = some (stepX Ls cap s u) := by
  simp only [letC, List.mem_cons, List.not_mem_nil, or_false] at hu
  rcases hu with rfl | rfl | rfl | rfl <;> rfl
/-- a book's table of steps -/
structure StepT (Ls : List Lim) (cap : Int) (kvs : List (D × D)) (R : Std → Prop) : Prop where
  at_ : ∀ s, R s → getT kvs (nkS s) = some (rowX Ls cap s)
  go : ∀ s u, R s → u ∈ letC → R (goalL Ls cap s u)
  ok : ∀ s, R s → StdOk Ls s
  fresh : R (freshL Ls)
def bookX (Ls : List Lim) (kvs : List (D × D)) : D := .ins "Book" [("rules", .tup (Ls.map limX)), ("cap", .int (capL Ls)), ("first", stdX (freshL Ls)), ("steps", .dct true kvs)]
structure BookOk (Ls : List Lim) (kvs : List (D × D)) (R : Std → Prop) : Prop where
  tab : StepT Ls (capL Ls) kvs R
  good : ∀ L ∈ Ls, GoodL L
  len : 1 ≤ Ls.length ∧ Ls.length ≤ 4
def runL (Ls : List Lim) (s : Std) (us : List Nat) : Std := us.foldl (fun s u => goalL Ls (capL Ls) s u) s
theorem row_let {rs : List Nat} (h : isRowC rs = true) : ∀ u ∈ rs, u ∈ letC := fun u hu => by
  unfold isRowC at h
  rw [Bool.and_eq_true] at h
  exact of_decide_eq_true (List.all_eq_true.mp h.2 u hu)
theorem run_in {Ls : List Lim} {kvs : List (D × D)} {R : Std → Prop} (b : BookOk Ls kvs R) : ∀ (us : List Nat) (s : Std), R s → (∀ u ∈ us, u ∈ letC) → R (runL Ls s us)
  | [], s, h, _ => h
  | u :: us, s, h, hu => run_in b us _ (b.tab.go s u h (hu u List.mem_cons_self)) fun v hv => hu v (List.mem_cons_of_mem _ hv)
theorem ixT_of {x : D} {s : Std} {m : Mem} {q : QD} {kvs : List (D × D)} {e : D} (h : dctOf x m = some (true, kvs)) (hg : getT kvs (nkS s) = some e) (k : q e m) : gIxT x (stdX s) m q := ⟨kvs, nkS s, e, h, nkS_of s, depth_S s, hg, k⟩
theorem ixK_of {Ls : List Lim} {cap : Int} {s : Std} {m : Mem} {q : QD} {u : Nat} (hu : u ∈ letC) (k : q (stepX Ls cap s u) m) : gIxK (rowX Ls cap s) (.str [u]) m q := ⟨_, .inr ⟨#[u]⟩, _, rfl, rfl, row_at Ls cap s hu, k⟩
theorem inT_of {f : Bool → Bool} {y : D} {s : Std} {m : Mem} {q : QD} {kvs : List (D × D)} (h : dctOf y m = some (true, kvs)) (k : q (.bl (f (getT kvs (nkS s)).isSome)) m) : gInT f (stdX s) y m q := ⟨kvs, nkS s, h, nkS_of s, depth_S s, k⟩
def N_Book_stand : List Str := ["self", "row", "now", "unit"]
def rd_Book_stand : RS := rSeq (rDrop (rCall sp_check_row (rCons (rVar 1) (rNil))))
  (rSeq (rSet (rFld "Book" "first" (rVar 0)) 2)
  (rSeq (rFor (rAll (rVar 1)) (.nm 3) (rSet (rOp gIx (rOp gIxK (rOp gIxT (rFld "Book" "steps" (rVar 0)) (rVar 2)) (rVar 3)) (rC (.int 0))) 2))
  (rRet (rVar 2))))

def sp_Book_stand : SpD := fun ds m q xf => ∃ Ls kvs R x, ds = [bookX Ls kvs, x] ∧ BookOk Ls kvs R ∧ Anyv x m ∧ (∀ rs, x = .str rs → isRowC rs = true → q (stdX (runL Ls (freshL Ls) rs)) m) ∧ (isRowD x = false → xf "BadRow" [("given", x)] m)
theorem rl_Book_stand : ∀ ds m q xf, sp_Book_stand ds m q xf → ds.length = ["self", "row"].length := fun ds m q xf ⟨_, _, _, _, e, _⟩ => by rw [e]; rfl
theorem rp_Book_stand : ∀ ds m q xf, sp_Book_stand ds m q xf → rd_Book_stand (xdD xf) (enD q) (nvs N_Book_stand ds) m := by
  rintro ds m q xf ⟨Ls, kvs, R, x, rfl, b, ha, k, kx⟩
  unfold rd_Book_stand N_Book_stand
  walk_at "rd"
  refine ⟨x, rfl, ha, ?_⟩
  cases h : isRowD x
  · exact xd_same (n := []) (kx h)
  obtain ⟨rs, rfl⟩ : ∃ rs, x = .str rs := by
    cases x with
    | str rs => exact ⟨rs, rfl⟩
    | _ => cases h
  have hr : isRowC rs = true := h
  have k := k rs rfl hr
  refine ⟨_, rfl, _, rfl, ?_⟩
  walk_at "rd"
  refine for_step (fun xs n m' => ∃ us s y, xs = chars us ∧ n = [some (bookX Ls kvs), some (.str rs), some (stdX s), y] ∧ m' = m ∧ R s ∧ (∀ u ∈ us, u ∈ letC) ∧ runL Ls s us = runL Ls (freshL Ls) rs) ?_ ?_ _ _ _ ⟨rs, freshL Ls, _, rfl, rfl, rfl, b.tab.fresh, row_let hr, rfl⟩
  · rintro n m' ⟨us, s, y, eu, rfl, rfl, _, _, er⟩
    have eu : us = [] := by
      cases us with
      | nil => rfl
      | cons _ _ => cases eu
    subst eu
    walk_at "rd"
    rw [← er] at k
    exact rt_same k
  · rintro x xs n m' ⟨us, s, y, eu, rfl, rfl, hs, hu, er⟩ kk hk
    cases us with
    | nil => cases eu
    | cons u us =>
      injection eu with e1 e2
      subst e1 e2
      walk_at "rd"
      refine ⟨_, rfl, _, rfl, ixT_of rfl (b.tab.at_ s hs) (ixK_of (hu u List.mem_cons_self) ?_)⟩
      unfold stepX
      walk_at "rd"
      exact hk _ _ ⟨us, goalL Ls (capL Ls) s u, _, rfl, rfl, rfl, b.tab.go s u hs (hu u List.mem_cons_self), fun v hv => hu v (List.mem_cons_of_mem _ hv), er⟩
end DL

namespace DL
open PySem PySem.Spec PyProof.Rows L2
/-! books: rows -/
local macro_rules | `(tactic| walk_at "rd") => `(tactic| simp only [rSetT, rDct0T, rDct1T, rDc, rLcG, rbClause, rbEmit, rZip2, rZip3, rCallO, gLenD, gLenO, gMaxL, gSortL, gSortLO, rFld, rSetF, rMeth, rMake, rFrzI, rProp, rIsC, rRev, rAllK, rLcK, rLcKO, ew0, ew1, ew2, ew3, ew4, ew5, ew6, rRaise, rTry, xCls, enO, setO, rXf, rIsX, Option.elim_some, Option.elim_none, rSeq, rSet, rAsg, rRet, rRetN, rDrop, rIf, rSkip, rVar, rC, rOp, rUn, rTst, rTru, rNot, rAnd, rOr, rAndV, rOrV, rNotV, rIfE, rChain, rCons, rNil, rTup, rLst, rLstO, rCB, rLM, rSM, rSl, rPart, rNoPart, rAll, rRng1, rRng2, rFor, rCall, rAug, rSetIx, rLenSet, rFmt, rJoined, rJs, rLc, rLcO, rFrz, setAll, rYes, rNever, wipeN, nvs, enD, turnD, gNe, gLt, gLe, gGt, gGe, gIn, gNotIn, gIs, gIsNot, gMod, gFdiv, gPow, gAppend, gPop, gPopAt, gClear, gReverse, gExtend, gJoin, gSplit, nm_T, tp_T, at_0, at_1, at_2, at_3, at_4, at_5, at_6, at_7, ix_0, ix_1, ix_2, ix_3, ix_4, List.map_cons, List.map_nil, List.length_cons, List.length_nil, List.replicate, List.cons_append, List.nil_append, List.getElem?_cons_zero, List.getElem?_cons_succ, List.set_cons_zero, List.set_cons_succ, Option.some.injEq, exists_eq_left', exists_eq_left, exists_and_left, D.int.injEq, D.str.injEq, D.bl.injEq, D.ref.injEq, D.tup.injEq, D.lst.injEq, MO.lst.injEq, List.cons.injEq, and_true, true_and, if_true, if_false, Bool.false_eq_true, Nat.reduceSub, Nat.reduceAdd, reduceIte, reduceCtorEq, mset_same, mset_mset, Bool.not_true, Bool.not_false, imp_self, implies_true, not_false_eq_true, forall_const, ev0, ev1, ev2, ev3, ev4, ev5, ev6, ev7, ev8, ev9, ev10, ev11, ev12, ev13, ev14, ev15, ev16, ev17, ev18, ev19, ev20, ev21, ev22, ev23, ev24, ev25, ev26, ev27, ev28, ev29, ev30, ev31, ev32, ev33, ev34, ev35, ev36, ev37, ev38, ev39, ev40, ev41, ev42, ev43, ev44, ev45, ev46, ev47, ev48, ev49, ev50, ev51, ev52, ev53, ev54, ev55, ev56, ev57, ev58, ev59, ev60, ev61, ev62, ev63, ev64, ev65, ev66, ev67, ev68, ev69, ev70, ev71, ev72, ev73, ev74, ev75, ev76, ev77, ev78, ev79, ev80, ev81, ev82, ev83, ev84, ev85, ev86, ev87, ev88, ev89, ev90, ev91, ev92, ev93, ev94, ev95, ev96, ev97, ev98, ev99, ev100, ev101, ev102, ev103, ev104, ev105, ev106, ev107, ev108, ev109, ev110, ev111, ev112, ev113, ev114, ev115, ev116, ev117, ev118, ev119, ev120, ev121, ev122, ev123, ev124, ev125, ev126, ev127, ev128, ev129, ev130, ev131, ev132, ev133, ev134, ev135, ev136, ev137, ev138, ev139, ev140, ev141, ev142, ev143, ev144, ev145, ev146, ev147, ev148, ev149, ev150, ev151, ev152, ev153, ev154, ev155, ev156, ev157, ev158, ev159, ev160, ev161, ev162])
local macro_rules | `(tactic| walk_at "rq") => `(tactic| simp only [rSetT, rDct0T, rDct1T, rDc, rLcG, rbClause, rbEmit, rZip2, rZip3, rCallO, gLenD, gLenO, gMaxL, gSortL, gSortLO, rFld, rSetF, rMeth, rMake, rFrzI, rProp, rIsC, rRev, rAllK, rLcK, rLcKO, ew0, ew1, ew2, ew3, ew4, ew5, ew6, rRaise, rTry, xCls, enO, setO, rXf, rIsX, Option.elim_some, Option.elim_none, rSeq, rSet, rAsg, rRet, rRetN, rDrop, rIf, rSkip, rVar, rC, rOp, rUn, rTst, rTru, rNot, rAnd, rOr, rAndV, rOrV, rNotV, rIfE, rChain, rCons, rNil, rTup, rLst, rLstO, rCB, rLM, rSM, rSl, rPart, rNoPart, rAll, rRng1, rRng2, rFor, rCall, rAug, rSetIx, rLenSet, rFmt, rJoined, rJs, rLc, rLcO, rFrz, setAll, rYes, rNever, wipeN, nvs, enD, turnD, gNe, gLt, gLe, gGt, gGe, gIn, gNotIn, gIs, gIsNot, gMod, gFdiv, gPow, gAppend, gPop, gPopAt, gClear, gReverse, gExtend, gJoin, gSplit, nm_T, tp_T, at_0, at_1, at_2, at_3, at_4, at_5, at_6, at_7, ix_0, ix_1, ix_2, ix_3, ix_4, List.map_cons, List.map_nil, List.length_cons, List.length_nil, List.replicate, List.cons_append, List.nil_append, List.getElem?_cons_zero, List.getElem?_cons_succ, List.set_cons_zero, List.set_cons_succ, Option.some.injEq, exists_eq_left', exists_eq_left, exists_and_left, D.int.injEq, D.str.injEq, D.bl.injEq, D.ref.injEq, D.tup.injEq, D.lst.injEq, MO.lst.injEq, List.cons.injEq, and_true, true_and, if_true, if_false, Bool.false_eq_true, Nat.reduceSub, Nat.reduceAdd, reduceIte, reduceCtorEq, mset_same, mset_mset, Bool.not_true, Bool.not_false, imp_self, implies_true, not_false_eq_true, forall_const, ev0, ev1, ev2, ev3, ev4, ev5, ev6, ev7, ev8, ev9, ev10, ev11, ev12, ev13, ev14, ev15, ev16, ev17, ev18, ev19, ev20, ev21, ev22, ev23, ev24, ev25, ev26, ev27, ev28, ev29, ev30, ev31, ev32, ev33, ev34, ev35, ev36, ev37, ev38, ev39, ev40, ev41, ev42, ev43, ev44, ev45, ev46, ev47, ev48, ev49, ev50, ev51, ev52, ev53, ev54, ev55, ev56, ev57, ev58, ev59, ev60, ev61, ev62, ev63, ev64, ev65, ev66, ev67, ev68, ev69, ev70, ev71, ev72, ev73, ev74, ev75, ev76, ev77, ev78, ev79, ev80, ev81, ev82, ev83, ev84, ev85, ev86, ev87, ev88, ev89, ev90, ev91, ev92, ev93, ev94, ev95, ev96, ev97, ev98, ev99, ev100, ev101, ev102, ev103, ev104, ev105, ev106, ev107, ev108, ev109, ev110, ev111, ev112, ev113, ev114, ev115, ev116, ev117, ev118, ev119, ev120, ev121, ev122, ev123, ev124, ev125, ev126, ev127, ev128, ev129, ev130, ev131, ev132, ev133, ev134, ev135, ev136, ev137, ev138, ev139, ev140, ev141, ev142, ev143, ev144, ev145, ev146, ev147, ev148, ev149, ev150, ev151, ev152, ev153, ev154, ev155, ev156, ev157, ev158, ev159, ev160, ev161, ev162, Int.reduceEq, Int.reduceNe, Int.reduceLT, Int.reduceLE, Int.reduceNeg, decide_true, decide_false])
def N_Book_counts : List Str := ["self", "row"]
def rd_Book_counts : RS := rRet (rOp gIx (rMeth "Book" "stand" sp_Book_stand [] (rVar 0) (rCons (rVar 1) (rNil))) (rC (.int 1)))

def sp_Book_counts : SpD := fun ds m q xf => ∃ Ls kvs R x, ds = [bookX Ls kvs, x] ∧ BookOk Ls kvs R ∧ Anyv x m ∧ (∀ rs, x = .str rs → isRowC rs = true → q (tupI (runL Ls (freshL Ls) rs).c) m) ∧ (isRowD x = false → xf "BadRow" [("given", x)] m)
theorem rl_Book_counts : ∀ ds m q xf, sp_Book_counts ds m q xf → ds.length = ["self", "row"].length := fun ds m q xf ⟨_, _, _, _, e, _⟩ => by rw [e]; rfl
theorem rp_Book_counts : ∀ ds m q xf, sp_Book_counts ds m q xf → rd_Book_counts (xdD xf) (enD q) (nvs N_Book_counts ds) m := by
  rintro ds m q xf ⟨Ls, kvs, R, x, rfl, b, ha, k, kx⟩
  unfold rd_Book_counts N_Book_counts
  walk_at "rd"
  refine ⟨_, rfl, rfl, Ls, kvs, R, x, rfl, b, ha, fun rs e hr => ?_, fun h => xd_same (n := []) (kx h)⟩
  unfold stdX
  walk_at "rd"
  exact rt_same (k rs e hr)
def N_Book___len__ : List Str := ["self"]
def rd_Book___len__ : RS := rRet (rCB gLen (rCons (rFld "Book" "rules" (rVar 0)) (rNil)))

def sp_Book___len__ : SpD := fun ds m q _ => ∃ Ls kvs, ds = [bookX Ls kvs] ∧ q (.int ((Ls.length : Nat) : Int)) m
theorem rl_Book___len__ : ∀ ds m q xf, sp_Book___len__ ds m q xf → ds.length = ["self"].length := fun ds m q xf ⟨_, _, e, _⟩ => by rw [e]; rfl
theorem rp_Book___len__ : ∀ ds m q xf, sp_Book___len__ ds m q xf → rd_Book___len__ (xdD xf) (enD q) (nvs N_Book___len__ ds) m := by
  rintro ds m q xf ⟨Ls, kvs, rfl, k⟩
  unfold rd_Book___len__ N_Book___len__
  walk_at "rd"
  refine ⟨_, rfl, _, rfl, ?_⟩
  walk_at "rd"
  rw [List.length_map]
  exact rt_same k
def N_Book_breaches : List Str := ["self", "row", "before", "now", "found", "place", "broken", "number"]
def rd_Book_breaches : RS := rSeq (rDrop (rCall sp_check_row (rCons (rVar 1) (rNil))))
  (rSeq (rSet (rMeth "Book" "stand" sp_Book_stand [] (rVar 0) (rCons (rVar 2) (rNil))) 3)
  (rSeq (rSet (rLstO (rNil)) 4)
  (rSeq (rFor (rRng1 (rCons (rCB gLen (rCons (rVar 1) (rNil))) (rNil))) (.nm 5) (rSeq (rAsg (rOp gIxK (rOp gIxT (rFld "Book" "steps" (rVar 0)) (rVar 3)) (rOp gIx (rVar 1) (rVar 5))) (.tp [3, 6]))
  (rDrop (rLM gExtend (rVar 4) (rCons (rLc (rAll (rVar 6)) (.nm 7) (rYes) (rTup (rCons (rVar 5) (rCons (rVar 7) (rNil)))) [7]) (rNil))))))
  (rRet (rVar 4)))))

def breL (Ls : List Lim) : Std → Nat → List Nat → List (Nat × Nat)
  | _, _, [] => []
  | s, k, u :: us => ((brokL Ls (capL Ls) s u).map fun i => (k, i)) ++ breL Ls (goalL Ls (capL Ls) s u) (k + 1) us
def breX (p : Nat × Nat) : D := .tup [.int ((p.1 : Nat) : Int), .int ((p.2 : Nat) : Int)]
theorem brok_len {Ls : List Lim} (h : Ls.length ≤ 4) (cap : Int) (s : Std) (u : Nat) : (brokL Ls cap s u).length ≤ 4 := by
  unfold brokL
  refine Nat.le_trans (List.length_filter_le _ _) ?_
  rw [List.length_range]
  unfold allL
  rw [List.length_map, List.length_zip, List.length_zip]
  omega
def pairF (i : Nat) : D → Option D
  | .int j => some (.tup [.int ((i : Nat) : Int), .int j])
  | _ => none
theorem pairs_eq (i : Nat) : ∀ l : List Nat, List.filterMap (pairF i) (l.map fun j => D.int ((j : Nat) : Int)) = (l.map fun j => (i, j)).map breX
  | [] => rfl
  | j :: l => by
    rw [List.map_cons, List.filterMap_cons_some (show pairF i (.int ((j : Nat) : Int)) = some (breX (i, j)) from rfl), pairs_eq i l]
    rfl
def sp_Book_breaches : SpD := fun ds m q xf => ∃ Ls kvs R x y, ds = [bookX Ls kvs, x, y] ∧ BookOk Ls kvs R ∧ Anyv x m ∧ Anyv y m ∧
  (∀ rs bs, x = .str rs → y = .str bs → isRowC rs = true → isRowC bs = true → ∀ p, m p = none → q (.ref p) (mset m p (.lst ((breL Ls (runL Ls (freshL Ls) bs) 0 rs).map breX)))) ∧ (isRowD x = false → xf "BadRow" [("given", x)] m) ∧ (isRowD x = true → isRowD y = false → xf "BadRow" [("given", y)] m)
theorem rl_Book_breaches : ∀ ds m q xf, sp_Book_breaches ds m q xf → ds.length = ["self", "row", "before"].length := fun ds m q xf ⟨_, _, _, _, _, e, _⟩ => by rw [e]; rfl
theorem rp_Book_breaches : ∀ ds m q xf, sp_Book_breaches ds m q xf → rd_Book_breaches (xdD xf) (enD q) (nvs N_Book_breaches ds) m := by
  rintro ds m q xf ⟨Ls, kvs, R, x, y, rfl, b, ha, hb, k, kx, ky⟩
  unfold rd_Book_breaches N_Book_breaches
  have hz : sizeLine = 16777216 := sizeLine_eq
  walk_at "rd"
  refine ⟨x, rfl, ha, ?_⟩
  cases h : isRowD x
  · exact xd_same (n := []) (kx h)
  obtain ⟨rs, rfl⟩ : ∃ rs, x = .str rs := by
    cases x with
    | str rs => exact ⟨rs, rfl⟩
    | _ => cases h
  have hr : isRowC rs = true := h
  have hl := row_len hr
  refine ⟨_, rfl, rfl, Ls, kvs, R, y, rfl, b, hb, fun bs e hbs => ?_, fun h2 => xd_same (n := []) (ky h h2)⟩
  have k := k rs bs rfl e hr hbs
  generalize hs0 : runL Ls (freshL Ls) bs = s0 at k ⊢
  have R0 : R s0 := by
    rw [← hs0]
    exact run_in b bs _ b.tab.fresh (row_let hbs)
  walk_at "rd"
  refine ⟨by omega, fun P hP => ⟨by omega, by omega, by omega, ?_⟩⟩
  refine for_step (fun xs n m' => ∃ i s acc y5 y6, i ≤ rs.length ∧ xs = rngD (i : Int) (rs.length - i) ∧ n = [some (bookX Ls kvs), some (.str rs), some y, some (stdX s), some (.ref P), y5, y6, none] ∧ m' = mset m P (.lst (acc.map breX)) ∧ R s ∧ acc.length ≤ 4 * i ∧ acc ++ breL Ls s i (rs.drop i) = breL Ls s0 0 rs) ?_ ?_ _ _ _ ⟨0, s0, [], _, _, Nat.zero_le _, rfl, rfl, rfl, R0, Nat.zero_le _, rfl⟩
  · rintro n m' ⟨i, s, acc, y5, y6, hi, ex, rfl, rfl, _, _, er⟩
    have ei : i = rs.length := by
      have := congrArg List.length ex
      rw [rngD_length, List.length_nil] at this
      omega
    subst ei
    rw [List.drop_length, breL, List.append_nil] at er
    walk_at "rd"
    rw [er]
    exact rt_same (k P hP)
  · rintro x xs n m' ⟨i, s, acc, y5, y6, hi, ex, rfl, rfl, hs, hal, er⟩ kk hk
    have hlt : i < rs.length := by
      have := congrArg List.length ex
      rw [rngD_length, List.length_cons] at this
      omega
    rw [show rs.length - i = (rs.length - (i + 1)) + 1 by omega, rngD_succ] at ex
    injection ex with e1 e2
    subst e1 e2
    walk_at "rd"
    have hu : rs[i] ∈ letC := row_let hr _ (List.getElem_mem hlt)
    have eu : atI rs (i : Int) = some rs[i] := by
      have := atI_nat (xs := rs) hlt
      rwa [Int.zero_add] at this
    refine ⟨_, rfl, _, rfl, ixT_of rfl (b.tab.at_ s hs) ⟨by omega, _, eu, ixK_of hu ?_⟩⟩
    unfold stepX brokX
    walk_at "rd"
    have hbl := brok_len b.len.2 (capL Ls) s rs[i]
    refine ⟨⟨_, rfl⟩, comp_go (pairF i) (by rw [List.length_map]; omega) (fun P2 h2 x hx a hla kk2 hk2 => ?_) fun P2 h2 => ?_⟩
    · obtain ⟨j, _, rfl⟩ := List.mem_map.mp hx
      walk_at "rd"
      exact ⟨by omega, hla, hk2⟩
    · rw [mdel_mset h2, pairs_eq]
      refine ⟨_, mset_same, _, mset_same, by rw [List.length_map, List.length_map, List.length_map]; omega, ?_⟩
      rw [mset_mset, ← List.map_append]
      refine hk _ _ ⟨i + 1, goalL Ls (capL Ls) s rs[i], _, _, _, by omega, by congr 1, rfl, rfl, b.tab.go s _ hs hu, ?_, ?_⟩
      · rw [List.length_append, List.length_map]
        omega
      · rw [List.append_assoc]
        rw [List.drop_eq_getElem_cons hlt, breL] at er
        exact er
def N_Book_keeps : List Str := ["self", "row", "before"]
def rd_Book_keeps : RS := rRet (rOp gEq (rMeth "Book" "breaches" sp_Book_breaches [] (rVar 0) (rCons (rVar 1) (rCons (rVar 2) (rNil)))) (rLst (rNil)))

def sp_Book_keeps : SpD := fun ds m q xf => ∃ Ls kvs R x y, ds = [bookX Ls kvs, x, y] ∧ BookOk Ls kvs R ∧ Anyv x m ∧ Anyv y m ∧
  (∀ rs bs, x = .str rs → y = .str bs → isRowC rs = true → isRowC bs = true → q (.bl (breL Ls (runL Ls (freshL Ls) bs) 0 rs).isEmpty) m) ∧ (isRowD x = false → xf "BadRow" [("given", x)] m) ∧ (isRowD x = true → isRowD y = false → xf "BadRow" [("given", y)] m)
theorem rl_Book_keeps : ∀ ds m q xf, sp_Book_keeps ds m q xf → ds.length = ["self", "row", "before"].length := fun ds m q xf ⟨_, _, _, _, _, e, _⟩ => by rw [e]; rfl
theorem bre_fl (l : List (Nat × Nat)) : fl 60 (.lst (l.map breX)) = true := by
  show fls 59 _ = true
  rw [fls_iff]
  intro d hd
  obtain ⟨p, _, rfl⟩ := List.mem_map.mp hd
  rfl
theorem bre_nil (l : List (Nat × Nat)) : eqD (.lst (l.map breX)) (.lst []) = l.isEmpty := by
  cases l with
  | nil => decide
  | cons a l =>
    unfold eqD
    simp [toP, toPs, PyData.eqv, PyData.eqvAll]
theorem rp_Book_keeps : ∀ ds m q xf, sp_Book_keeps ds m q xf → rd_Book_keeps (xdD xf) (enD q) (nvs N_Book_keeps ds) m := by
  rintro ds m q xf ⟨Ls, kvs, R, x, y, rfl, b, ha, hb, k, kx, ky⟩
  unfold rd_Book_keeps N_Book_keeps
  have hz : sizeLine = 16777216 := sizeLine_eq
  walk_at "rd"
  refine ⟨_, rfl, rfl, Ls, kvs, R, x, y, rfl, b, ha, hb, fun rs bs e1 e2 h1 h2 p hp => ?_, fun h => xd_same (n := []) (kx h), fun h1 h2 => xd_same (n := []) (ky h1 h2)⟩
  walk_at "rd"
  have k := k rs bs e1 e2 h1 h2
  rw [← bre_nil] at k
  exact ⟨by omega, bre_fl _, rfl, rt_sub ((Sub.refl m).add hp) k⟩
def N_Book___call__ : List Str := ["self", "row"]
def rd_Book___call__ : RS := rRet (rMeth "Book" "keeps" sp_Book_keeps [.str []] (rVar 0) (rCons (rVar 1) (rNil)))

def sp_Book___call__ : SpD := fun ds m q xf => ∃ Ls kvs R x, ds = [bookX Ls kvs, x] ∧ BookOk Ls kvs R ∧ Anyv x m ∧ (∀ rs, x = .str rs → isRowC rs = true → q (.bl (breL Ls (freshL Ls) 0 rs).isEmpty) m) ∧ (isRowD x = false → xf "BadRow" [("given", x)] m)
theorem rl_Book___call__ : ∀ ds m q xf, sp_Book___call__ ds m q xf → ds.length = ["self", "row"].length := fun ds m q xf ⟨_, _, _, _, e, _⟩ => by rw [e]; rfl
theorem rp_Book___call__ : ∀ ds m q xf, sp_Book___call__ ds m q xf → rd_Book___call__ (xdD xf) (enD q) (nvs N_Book___call__ ds) m := by
  rintro ds m q xf ⟨Ls, kvs, R, x, rfl, b, ha, k, kx⟩
  unfold rd_Book___call__ N_Book___call__
  walk_at "rd"
  refine ⟨_, rfl, rfl, Ls, kvs, R, x, .str [], rfl, b, ha, any_str (by decide), fun rs bs e1 e2 h1 h2 => ?_, fun h => xd_same (n := []) (kx h), fun _ h => absurd h (by decide)⟩
  cases e2
  exact rt_same (k rs e1 h1)
end DL

namespace DL
open PySem PySem.Spec PyProof.Rows L2
/-! books made -/
local macro_rules | `(tactic| walk_at "rd") => `(tactic| simp only [rSetT, rDct0T, rDct1T, rDc, rLcG, rbClause, rbEmit, rZip2, rZip3, rCallO, gLenD, gLenO, gMaxL, gSortL, gSortLO, rFld, rSetF, rMeth, rMake, rFrzI, rProp, rIsC, rRev, rAllK, rLcK, rLcKO, ew0, ew1, ew2, ew3, ew4, ew5, ew6, rRaise, rTry, xCls, enO, setO, rXf, rIsX, Option.elim_some, Option.elim_none, rSeq, rSet, rAsg, rRet, rRetN, rDrop, rIf, rSkip, rVar, rC, rOp, rUn, rTst, rTru, rNot, rAnd, rOr, rAndV, rOrV, rNotV, rIfE, rChain, rCons, rNil, rTup, rLst, rLstO, rCB, rLM, rSM, rSl, rPart, rNoPart, rAll, rRng1, rRng2, rFor, rCall, rAug, rSetIx, rLenSet, rFmt, rJoined, rJs, rLc, rLcO, rFrz, setAll, rYes, rNever, wipeN, nvs, enD, turnD, gNe, gLt, gLe, gGt, gGe, gIn, gNotIn, gIs, gIsNot, gMod, gFdiv, gPow, gAppend, gPop, gPopAt, gClear, gReverse, gExtend, gJoin, gSplit, nm_T, tp_T, at_0, at_1, at_2, at_3, at_4, at_5, at_6, at_7, ix_0, ix_1, ix_2, ix_3, ix_4, List.map_cons, List.map_nil, List.length_cons, List.length_nil, List.replicate, List.cons_append, List.nil_append, List.getElem?_cons_zero, List.getElem?_cons_succ, List.set_cons_zero, List.set_cons_succ, Option.some.injEq, exists_eq_left', exists_eq_left, exists_and_left, D.int.injEq, D.str.injEq, D.bl.injEq, D.ref.injEq, D.tup.injEq, D.lst.injEq, MO.lst.injEq, List.cons.injEq, and_true, true_and, if_true, if_false, Bool.false_eq_true, Nat.reduceSub, Nat.reduceAdd, reduceIte, reduceCtorEq, mset_same, mset_mset, Bool.not_true, Bool.not_false, imp_self, implies_true, not_false_eq_true, forall_const, ev0, ev1, ev2, ev3, ev4, ev5, ev6, ev7, ev8, ev9, ev10, ev11, ev12, ev13, ev14, ev15, ev16, ev17, ev18, ev19, ev20, ev21, ev22, ev23, ev24, ev25, ev26, ev27, ev28, ev29, ev30, ev31, ev32, ev33, ev34, ev35, ev36, ev37, ev38, ev39, ev40, ev41, ev42, ev43, ev44, ev45, ev46, ev47, ev48, ev49, ev50, ev51, ev52, ev53, ev54, ev55, ev56, ev57, ev58, ev59, ev60, ev61, ev62, ev63, ev64, ev65, ev66, ev67, ev68, ev69, ev70, ev71, ev72, ev73, ev74, ev75, ev76, ev77, ev78, ev79, ev80, ev81, ev82, ev83, ev84, ev85, ev86, ev87, ev88, ev89, ev90, ev91, ev92, ev93, ev94, ev95, ev96, ev97, ev98, ev99, ev100, ev101, ev102, ev103, ev104, ev105, ev106, ev107, ev108, ev109, ev110, ev111, ev112, ev113, ev114, ev115, ev116, ev117, ev118, ev119, ev120, ev121, ev122, ev123, ev124, ev125, ev126, ev127, ev128, ev129, ev130, ev131, ev132, ev133, ev134, ev135, ev136, ev137, ev138, ev139, ev140, ev141, ev142, ev143, ev144, ev145, ev146, ev147, ev148, ev149, ev150, ev151, ev152, ev153, ev154, ev155, ev156, ev157, ev158, ev159, ev160, ev161, ev162])
local macro_rules | `(tactic| walk_at "rq") => `(tactic| simp only [rSetT, rDct0T, rDct1T, rDc, rLcG, rbClause, rbEmit, rZip2, rZip3, rCallO, gLenD, gLenO, gMaxL, gSortL, gSortLO, rFld, rSetF, rMeth, rMake, rFrzI, rProp, rIsC, rRev, rAllK, rLcK, rLcKO, ew0, ew1, ew2, ew3, ew4, ew5, ew6, rRaise, rTry, xCls, enO, setO, rXf, rIsX, Option.elim_some, Option.elim_none, rSeq, rSet, rAsg, rRet, rRetN, rDrop, rIf, rSkip, rVar, rC, rOp, rUn, rTst, rTru, rNot, rAnd, rOr, rAndV, rOrV, rNotV, rIfE, rChain, rCons, rNil, rTup, rLst, rLstO, rCB, rLM, rSM, rSl, rPart, rNoPart, rAll, rRng1, rRng2, rFor, rCall, rAug, rSetIx, rLenSet, rFmt, rJoined, rJs, rLc, rLcO, rFrz, setAll, rYes, rNever, wipeN, nvs, enD, turnD, gNe, gLt, gLe, gGt, gGe, gIn, gNotIn, gIs, gIsNot, gMod, gFdiv, gPow, gAppend, gPop, gPopAt, gClear, gReverse, gExtend, gJoin, gSplit, nm_T, tp_T, at_0, at_1, at_2, at_3, at_4, at_5, at_6, at_7, ix_0, ix_1, ix_2, ix_3, ix_4, List.map_cons, List.map_nil, List.length_cons, List.length_nil, List.replicate, List.cons_append, List.nil_append, List.getElem?_cons_zero, List.getElem?_cons_succ, List.set_cons_zero, List.set_cons_succ, Option.some.injEq, exists_eq_left', exists_eq_left, exists_and_left, D.int.injEq, D.str.injEq, D.bl.injEq, D.ref.injEq, D.tup.injEq, D.lst.injEq, MO.lst.injEq, List.cons.injEq, and_true, true_and, if_true, if_false, Bool.false_eq_true, Nat.reduceSub, Nat.reduceAdd, reduceIte, reduceCtorEq, mset_same, mset_mset, Bool.not_true, Bool.not_false, imp_self, implies_true, not_false_eq_true, forall_const, ev0, ev1, ev2, ev3, ev4, ev5, ev6, ev7, ev8, ev9, ev10, ev11, ev12, ev13, ev14, ev15, ev16, ev17, ev18, ev19, ev20, ev21, ev22, ev23, ev24, ev25, ev26, ev27, ev28, ev29, ev30, ev31, ev32, ev33, ev34, ev35, ev36, ev37, ev38, ev39, ev40, ev41, ev42, ev43, ev44, ev45, ev46, ev47, ev48, ev49, ev50, ev51, ev52, ev53, ev54, ev55, ev56, ev57, ev58, ev59, ev60, ev61, ev62, ev63, ev64, ev65, ev66, ev67, ev68, ev69, ev70, ev71, ev72, ev73, ev74, ev75, ev76, ev77, ev78, ev79, ev80, ev81, ev82, ev83, ev84, ev85, ev86, ev87, ev88, ev89, ev90, ev91, ev92, ev93, ev94, ev95, ev96, ev97, ev98, ev99, ev100, ev101, ev102, ev103, ev104, ev105, ev106, ev107, ev108, ev109, ev110, ev111, ev112, ev113, ev114, ev115, ev116, ev117, ev118, ev119, ev120, ev121, ev122, ev123, ev124, ev125, ev126, ev127, ev128, ev129, ev130, ev131, ev132, ev133, ev134, ev135, ev136, ev137, ev138, ev139, ev140, ev141, ev142, ev143, ev144, ev145, ev146, ev147, ev148, ev149, ev150, ev151, ev152, ev153, ev154, ev155, ev156, ev157, ev158, ev159, ev160, ev161, ev162, Int.reduceEq, Int.reduceNe, Int.reduceLT, Int.reduceLE, Int.reduceNeg, decide_true, decide_false])
def N_Book___init__ : List Str := ["self", "limits", "limit", "way", "length", "counts", "line", "stand", "unit"]
def rd_Book___init__ : RS := rSeq (rIf (rOr (rNot (rTst (rCB gIsi (rCons (rVar 1) (rCons (rC (.ty "list")) (rNil)))))) (rNot (rTst (rChain gLe gLe (rC (.int 1)) (rCB gLen (rCons (rVar 1) (rNil))) (rC (.int 4)))))) (rRaise "BadLimits" (rVar 1)) (rSkip))
  (rSeq (rIf (rNot (rTst (rCB gAll (rCons (rLc (rAll (rVar 1)) (.nm 2) (rYes) (rIsC "Limit" (rVar 2)) [2]) (rNil))))) (rRaise "BadLimits" (rVar 1)) (rSkip))
  (rSeq (rSetF "Book" "rules" (rVar 0) (rCB gTuple (rCons (rVar 1) (rNil))))
  (rSeq (rSetF "Book" "cap" (rVar 0) (rOp gAdd (rC (.int 1)) (rCB gMaxL (rCons (rLcG (rAll (rVar 1)) (.nm 2) rYes (fun P => rbClause (rAll (rFld "Limit" "ends" (rVar 2))) (.nm 3) rYes (rbClause (rAll (rVar 3)) (.nm 4) rYes (rbEmit P (rVar 4)) [4]) [3, 4]) [2, 3, 4]) (rNil)))))
  (rSeq (rSet (rCB gTuple (rCons (rLc (rAll (rVar 1)) (.nm 2) (rYes) (rC (.int 0)) [2]) (rNil))) 5)
  (rSeq (rSetF "Book" "first" (rVar 0) (rTup (rCons (rC (.int 0)) (rCons (rVar 5) (rCons (rCB gTuple (rCons (rLc (rAll (rVar 1)) (.nm 2) (rYes) (rCB gTuple (rCons (rLc (rAll (rFld "Limit" "ends" (rVar 2))) (.nm 3) (rYes) (rC (.int 0)) [3]) (rNil))) [2]) (rNil))) (rNil))))))
  (rSeq (rSetF "Book" "steps" (rVar 0) (rDct0T))
  (rSeq (rSet (rLstO (rCons (rFld "Book" "first" (rVar 0)) (rNil))) 6)
  (rWhile (rTru (rVar 6)) (rSeq (rSet (rLM gPop (rVar 6) rNil) 7)
  (rSeq (rIf (rTst (rOp (gInT fun b => !b) (rVar 7) (rFld "Book" "steps" (rVar 0)))) (rSeq (rSetT (rFld "Book" "steps" (rVar 0)) (rVar 7) (rDc (rAll (rC (.str [100, 119, 97, 114]))) (.nm 8) rYes (rVar 8) (rMeth "Book" "step" sp_Book_step [] (rVar 0) (rCons (rVar 7) (rCons (rVar 8) (rNil)))) [8]))
  (rDrop (rLM gExtend (rVar 6) (rCons (rLc (rAll (rC (.str [100, 119, 97, 114]))) (.nm 8) (rYes) (rOp gIx (rOp gIxK (rOp gIxT (rFld "Book" "steps" (rVar 0)) (rVar 7)) (rVar 8)) (rC (.int 0))) [8]) (rNil))))) (rSkip))
  (rIf (rTst (rOp gGt (rCB gLenD (rCons (rFld "Book" "steps" (rVar 0)) (rNil))) (rC (.int 300)))) (rNever) (rSkip))))))))))))

instance stdEq : DecidableEq Std := fun a b =>
  if h : a.r = b.r ∧ a.c = b.c ∧ a.p = b.p then .isTrue (by
    cases a
    cases b
    obtain ⟨h1, h2, h3⟩ := h
    cases h1
    cases h2
    cases h3
    rfl)
  else .isFalse fun e => h (by rw [e]; exact ⟨rfl, rfl, rfl⟩)
/-- a finite set of stands that a search stays in -/
structure Closed (Ls : List Lim) (S : List Std) : Prop where
  fresh : freshL Ls ∈ S
  go : ∀ s ∈ S, ∀ u ∈ letC, goalL Ls (capL Ls) s u ∈ S
/-- the stands that a search from the fresh one meets -/
structure Vis (Ls : List Lim) (vis : List Std) : Prop where
  nd : vis.Nodup
  least : ∀ T, Closed Ls T → ∀ s ∈ vis, s ∈ T
open Classical in
theorem least_closed {Ls : List Lim} {S : List Std} (h : Closed Ls S) : ∃ S0, Closed Ls S0 ∧ S0.length ≤ S.length ∧ ∀ s ∈ S0, ∀ T, Closed Ls T → s ∈ T := by
  refine ⟨S.filter fun s => decide (∀ T, Closed Ls T → s ∈ T), ⟨?_, fun s hs u hu => ?_⟩, List.length_filter_le _ _, fun s hs => ?_⟩
  · exact List.mem_filter.mpr ⟨h.fresh, decide_eq_true fun T hT => hT.fresh⟩
  · have h2 := of_decide_eq_true (List.mem_filter.mp hs).2
    exact List.mem_filter.mpr ⟨h.go s (List.mem_filter.mp hs).1 u hu, decide_eq_true fun T hT => hT.go s (h2 T hT) u hu⟩
  · exact of_decide_eq_true (List.mem_filter.mp hs).2
def tabX (Ls : List Lim) (vis : List Std) : List (D × D) := vis.map fun s => (stdX s, rowX Ls (capL Ls) s)
theorem getT_tab (Ls : List Lim) {s : Std} : ∀ {vis : List Std}, s ∈ vis → getT (tabX Ls vis) (nkS s) = some (rowX Ls (capL Ls) s)
  | v :: vis, h => by
    unfold tabX getT
    rw [List.map_cons]
    by_cases e : v = s
    · subst e
      rw [List.find?_cons_of_pos (by simp [nkS_of])]
      rfl
    · rw [List.find?_cons_of_neg (by simp only [nkS_of, decide_eq_true_eq]; exact fun z => e (nkS_inj (Option.some.inj z)))]
      rcases List.mem_cons.mp h with z | z
      · exact absurd z.symm e
      · exact getT_tab Ls z
theorem getT_no (Ls : List Lim) {s : Std} : ∀ {vis : List Std}, s ∉ vis → getT (tabX Ls vis) (nkS s) = none
  | [], _ => rfl
  | v :: vis, h => by
    unfold tabX getT
    rw [List.map_cons, List.find?_cons_of_neg (by simp only [nkS_of, decide_eq_true_eq]; exact fun z => h (by rw [nkS_inj (Option.some.inj z)]; exact List.mem_cons_self))]
    exact getT_no Ls fun z => h (List.mem_cons_of_mem _ z)
theorem std_fresh (Ls : List Lim) : StdOk Ls (freshL Ls) := ⟨by simp [freshL], by simp [freshL, Function.comp_def]⟩
theorem cnt_len {L : Lim} {c : Int} {ks : List Int} {u : Nat} {r : Int} (h : ks.length = L.ws.length) : (cntL L c ks u r).2.1.length = L.ws.length := by
  unfold cntL
  simp only []
  split
  · simp
  · unfold marksL
    simp [h]
theorem all_std : ∀ {Ls : List Lim} {cs : List Int} {ps : List (List Int)} {u : Nat} {r : Int}, cs.length = Ls.length → ps.map List.length = Ls.map (fun L => L.ws.length) →
    ((((Ls.zip cs).zip ps).map fun q => cntL q.1.1 q.1.2 q.2 u r).map (·.1)).length = Ls.length ∧ ((((Ls.zip cs).zip ps).map fun q => cntL q.1.1 q.1.2 q.2 u r).map (·.2.1)).map List.length = Ls.map fun L => L.ws.length
  | [], [], _, u, r, _, _ => by simp
  | L :: Ls, c :: cs, p :: ps, u, r, h1, h2 => by
    rw [List.map_cons, List.map_cons] at h2
    injection h2 with h2 h3
    obtain ⟨a, b⟩ := all_std (u := u) (r := r) (cs := cs) (by simpa using h1) h3
    constructor
    · simp at a ⊢
      omega
    · simp only [List.zip_cons_cons, List.map_cons]
      rw [b, cnt_len h2]
  | L :: Ls, [], ps, u, r, h1, _ => by cases h1
  | [], c :: cs, ps, u, r, h1, _ => by cases h1
  | L :: Ls, c :: cs, [], u, r, _, h2 => by cases h2
theorem std_goal {Ls : List Lim} {s : Std} (h : StdOk Ls s) (cap : Int) (u : Nat) : StdOk Ls (goalL Ls cap s u) := by
  obtain ⟨a, b⟩ := all_std (u := u) (r := restL cap s u) h.c h.p
  exact ⟨a, b⟩
/-- a clause whose turns put in h x each -/
theorem goB_app {T : Tgt} {rb : RB} {n : Nv} {P : Addr} {k : Mem → Prop} {m : Mem} (h : D → List D) : ∀ (xs acc : List D), acc.length + (xs.flatMap h).length ≤ 1000 →
    (∀ x ∈ xs, ∀ (acc : List D) (kk : Mem → Prop), acc.length + (h x).length ≤ 1000 → kk (mset m P (.lst (acc ++ h x))) → setT T x n fun n2 => rb n2 (mset m P (.lst acc)) kk) → k (mset m P (.lst (acc ++ xs.flatMap h))) → goB T rYes rb n k xs (mset m P (.lst acc))
  | [], acc, _, _, hk => by
    rw [goB]
    simpa using hk
  | x :: xs, acc, hl, hs, hk => by
    rw [goB]
    rw [List.flatMap_cons, List.length_append] at hl
    rw [List.flatMap_cons, ← List.append_assoc] at hk
    have step := hs x List.mem_cons_self acc (goB T rYes rb n k xs) (by omega) (goB_app h xs (acc ++ h x) (by rw [List.length_append]; omega) (fun y hy => hs y (List.mem_cons_of_mem _ hy)) hk)
    unfold rYes
    simp only [if_true]
    exact step
def esF : D → List D
  | .lst es => es
  | _ => []
def endsF : D → List D
  | .ins _ [_, _, (_, .lst ws)] => ws.flatMap esF
  | _ => []
theorem es_ways : ∀ ws : List (List Int), (waysX ws).flatMap esF = ws.flatten.map D.int
  | [] => rfl
  | w :: ws => by
    show (wayX w :: waysX ws).flatMap esF = _
    rw [List.flatMap_cons, es_ways ws, List.flatten_cons, List.map_append]
    rfl
theorem ends_lim (L : Lim) : endsF (limX L) = L.ws.flatten.map D.int := es_ways L.ws
theorem ends_all : ∀ Ls : List Lim, (Ls.map limX).flatMap endsF = (Ls.flatMap fun L => L.ws.flatten).map D.int
  | [] => rfl
  | L :: Ls => by
    rw [List.map_cons, List.flatMap_cons, List.flatMap_cons, List.map_append, ends_lim, ends_all Ls]
theorem flat_len {ws : List (List Int)} {n : Nat} (h : ∀ w ∈ ws, w.length ≤ n) : ws.flatten.length ≤ n * ws.length := by
  induction ws with
  | nil => simp
  | cons w ws ih =>
    have h1 := h w List.mem_cons_self
    have h2 := ih fun v hv => h v (List.mem_cons_of_mem _ hv)
    rw [List.flatten_cons, List.length_append, List.length_cons, Nat.mul_succ]
    omega
theorem good_flat {L : Lim} (g : GoodL L) : L.ws.flatten.length ≤ 4 ∧ 1 ≤ L.ws.flatten.length ∧ ∀ i ∈ L.ws.flatten, 1 ≤ i := by
  have h1 := flat_len (ws := L.ws) (n := 2) fun w hw => (g.way w hw).2.1
  have h2 := g.len
  refine ⟨by omega, ?_, fun i hi => ?_⟩
  · cases e : L.ws with
    | nil => rw [e] at h2; exact absurd h2.1 (by decide)
    | cons w ws =>
      have := (g.way w (by rw [e]; exact List.mem_cons_self)).1
      rw [List.flatten_cons, List.length_append]
      omega
  · obtain ⟨w, hw, hi⟩ := List.mem_flatten.mp hi
    exact ((g.way w hw).2.2 i hi).1
theorem all_flat : ∀ {Ls : List Lim}, (∀ L ∈ Ls, GoodL L) → (Ls.flatMap fun L => L.ws.flatten).length ≤ 4 * Ls.length ∧ (1 ≤ Ls.length → 1 ≤ (Ls.flatMap fun L => L.ws.flatten).length) ∧ ∀ i ∈ (Ls.flatMap fun L => L.ws.flatten), 1 ≤ i
  | [], _ => ⟨by simp, by simp, by simp⟩
  | L :: Ls, h => by
    obtain ⟨a, b, c⟩ := good_flat (h L List.mem_cons_self)
    obtain ⟨a2, b2, c2⟩ := all_flat fun M hM => h M (List.mem_cons_of_mem _ hM)
    rw [List.flatMap_cons, List.length_append, List.length_cons]
    refine ⟨by omega, fun _ => by omega, fun i hi => ?_⟩
    rcases List.mem_append.mp hi with hi | hi
    · exact c i hi
    · exact c2 i hi
theorem fold_max : ∀ (l : List Int) (a k : Int), (∀ y ∈ l, y ≤ k) → a ≤ k → (k ∈ l ∨ a = k) → l.foldl max a = k
  | [], a, k, _, _, h => by
    rcases h with h | h
    · cases h
    · exact h
  | x :: l, a, k, h1, h2, h3 => by
    rw [List.foldl_cons]
    have hx := h1 x List.mem_cons_self
    refine fold_max l (max a x) k (fun y hy => h1 y (List.mem_cons_of_mem _ hy)) (Int.max_le.mpr ⟨h2, hx⟩) ?_
    rcases h3 with h3 | h3
    · rcases List.mem_cons.mp h3 with h3 | h3
      · right
        rw [← h3]
        exact Int.max_eq_right h2
      · exact .inl h3
    · right
      rw [h3]
      exact Int.max_eq_left hx
theorem nodup_le {α : Type} [DecidableEq α] : ∀ {a b : List α}, a.Nodup → (∀ x ∈ a, x ∈ b) → a.length ≤ b.length
  | [], _, _, _ => Nat.zero_le _
  | x :: a, b, h, hs => by
    rw [List.nodup_cons] at h
    have hx := hs x List.mem_cons_self
    have h2 : a.length ≤ (b.erase x).length := nodup_le h.2 fun y hy => by
      have hne : y ≠ x := fun e => h.1 (e ▸ hy)
      exact (List.mem_erase_of_ne hne).mpr (hs y (List.mem_cons_of_mem _ hy))
    have h3 := List.length_erase_of_mem hx
    have h4 : 0 < b.length := List.length_pos_of_mem hx
    rw [List.length_cons]
    omega
theorem getK_snoc {acc : List (D × D)} {u v : Nat} {z : D} (h : getK acc (.inr ⟨#[v]⟩) = none) (hne : v ≠ u) : getK (acc ++ [(.str [u], z)]) (.inr ⟨#[v]⟩) = none := by
  unfold getK at h ⊢
  rw [List.find?_append]
  have h := Option.map_eq_none_iff.mp h
  rw [h, Option.none_or]
  rw [List.find?_cons_of_neg (by
    simp only [keyOf]
    intro e
    have e := of_decide_eq_true e
    injection e with e
    injection e with e
    injection e with e
    have : u = v := by simpa using e
    exact hne this.symm)]
  rfl
theorem dc_fn {T : Tgt} {tk tv : RE} {n : Nv} {P : Addr} {k : Mem → Prop} {m : Mem} (g : Nat → D) : ∀ (us : List Nat) (acc : List (D × D)), us.Nodup → acc.length + us.length ≤ 1000 → (∀ u ∈ us, getK acc (.inr ⟨#[u]⟩) = none) →
    (∀ u ∈ us, ∀ (acc : List (D × D)) (kk : Mem → Prop), getK acc (.inr ⟨#[u]⟩) = none → acc.length < 1000 → kk (mset m P (.dct false (acc ++ [(.str [u], g u)]))) → setT T (.str [u]) n fun n2 => tk xd0 n2 (mset m P (.dct false acc)) fun y m2 => tv xd0 n2 m2 fun z m3 => ∃ acc ky, m3 P = some (.dct false acc) ∧ keyOf y = some ky ∧ getK acc ky = none ∧ acc.length < sizeLine ∧ kk (mset m3 P (.dct false (acc ++ [(y, z)])))) →
    k (mset m P (.dct false (acc ++ us.map fun u => (.str [u], g u)))) → dcD T rYes tk tv n P k (chars us) (mset m P (.dct false acc))
  | [], acc, _, _, _, _, hk => by
    show dcD T rYes tk tv n P k [] _
    rw [dcD]
    simpa using hk
  | u :: us, acc, hnd, hl, hno, hs, hk => by
    show dcD T rYes tk tv n P k (.str [u] :: chars us) _
    rw [dcD]
    rw [List.nodup_cons] at hnd
    rw [List.length_cons] at hl
    have step := hs u List.mem_cons_self acc (dcD T rYes tk tv n P k (chars us)) (hno u List.mem_cons_self) (by omega) (dc_fn g us _ hnd.2 (by rw [List.length_append, List.length_cons, List.length_nil]; omega) (fun v hv => getK_snoc (hno v (List.mem_cons_of_mem _ hv)) fun e => hnd.1 (e ▸ hv)) (fun v hv => hs v (List.mem_cons_of_mem _ hv)) (by rw [List.append_assoc]; exact hk))
    unfold rYes
    simp only [if_true]
    exact step
def zerosF : D → Option D
  | .ins _ [_, _, (_, .lst ws)] => some (.tup (ws.map fun _ => .int 0))
  | _ => none
theorem zeros_all : ∀ Ls : List Lim, (Ls.map limX).filterMap zerosF = Ls.map fun L => tupI (L.ws.map fun _ => 0)
  | [] => rfl
  | L :: Ls => by
    rw [List.map_cons, List.filterMap_cons_some (show zerosF (limX L) = some (tupI (L.ws.map fun _ => 0)) by
      show some (D.tup ((waysX L.ws).map fun _ => .int 0)) = _
      unfold tupI waysX
      rw [List.map_map, List.map_map]
      rfl), zeros_all Ls]
    rfl
def bookF (Ls : List Lim) (st : D) : List (Str × D) := [("rules", .tup (Ls.map limX)), ("cap", .int (capL Ls)), ("first", stdX (freshL Ls)), ("steps", st)]
def sp_Book___init__ : SpD := fun ds m q _ => ∃ p Ls S, ds = [.ref p, .lst (Ls.map limX)] ∧ m p = some (.ins "Book" []) ∧ (∀ L ∈ Ls, GoodL L) ∧ (1 ≤ Ls.length ∧ Ls.length ≤ 4) ∧ Closed Ls S ∧ S.length ≤ 300 ∧
  ∀ Q vis, m Q = none → Vis Ls vis → BookOk Ls (tabX Ls vis) (· ∈ vis) → q .non (mset (mset m p (.ins "Book" (bookF Ls (.ref Q)))) Q (.dct true (tabX Ls vis)))
theorem rl_Book___init__ : ∀ ds m q xf, sp_Book___init__ ds m q xf → ds.length = ["self", "limits"].length := fun ds m q xf ⟨_, _, _, e, _⟩ => by rw [e]; rfl
theorem rp_Book___init__ : ∀ ds m q xf, sp_Book___init__ ds m q xf → rd_Book___init__ (xdD xf) (enD q) (nvs N_Book___init__ ds) m := by
  rintro ds m q xf ⟨p, Ls, S1, rfl, hp, hg, hl, hS1, hS4, k⟩
  obtain ⟨S, hS, hS2, hmin⟩ := least_closed hS1
  have hS3 : S.length ≤ 300 := Nat.le_trans hS2 hS4
  unfold rd_Book___init__ N_Book___init__
  have hz : sizeLine = 16777216 := sizeLine_eq
  walk_at "rd"
  refine ⟨by decide, ?_⟩
  have hll : (Ls.map limX).length = Ls.length := List.length_map ..
  simp only [show isTy "list" "list" = true by decide, Bool.not_true, Bool.false_eq_true, if_false, hll]
  rw [if_pos (decide_eq_true (by omega)), if_neg (by simp; omega)]
  refine comp_go (fun _ => some (.bl true)) (by rw [hll]; omega) (fun P hP x hx acc hla kk hk => ?_) fun P hP => ?_
  · obtain ⟨L, _, rfl⟩ := List.mem_map.mp hx
    walk_at "rd"
    exact ⟨true, rfl, hla, hk⟩
  rw [mdel_mset hP, fm_some]
  refine ⟨_, mset_same, _, bls_of (fun _ => true) _, ?_⟩
  rw [if_neg (by simp)]
  refine ⟨[], hp, by decide, fun P1 h1 => ?_⟩
  have hne : ∀ {o : MO} {Q : Addr}, mset m p o Q = none → p ≠ Q := fun {o Q} h z => by
    rw [← z, mset_same] at h
    cases h
  obtain ⟨fl1, fl2, fl3⟩ := all_flat hg
  refine goB_app endsF _ [] (by rw [ends_all, List.length_map, List.length_nil]; omega) (fun x hx acc kk hla hk => ?_) ?_
  · obtain ⟨L, hL, rfl⟩ := List.mem_map.mp hx
    rw [nm_T]
    walk_at "rd"
    refine ⟨_, rfl, _, rfl, ?_⟩
    show gAllOf (.lst (waysX L.ws)) _ _
    walk_at "rd"
    rw [ends_lim, ← es_ways] at hk hla
    refine goB_app esF _ acc hla (fun x hx acc kk hla hk => ?_) hk
    obtain ⟨w, hw, rfl⟩ := List.mem_map.mp hx
    have ew : esF (wayX w) = (w.map D.int).flatMap fun d => [d] := by
      show w.map D.int = _
      simp
    rw [ew] at hk hla
    rw [nm_T]
    unfold wayX
    walk_at "rd"
    refine goB_app (fun d => [d]) _ acc (by simpa using hla) (fun x hx acc kk hla hk => ?_) hk
    obtain ⟨i, _, rfl⟩ := List.mem_map.mp hx
    rw [nm_T]
    walk_at "rd"
    have hla : acc.length + 1 ≤ 1000 := hla
    exact ⟨by omega, hk⟩
  rw [List.nil_append, ends_all, mdel_mset h1]
  refine ⟨_, mset_same, _, rfl, by have := fl2 hl.1; omega, fun kk hk1 hk2 => ?_⟩
  have ecap : 1 + kk = capL Ls := by
    unfold capL
    rw [fold_max _ 0 kk hk2 (by have := fl3 kk hk1; omega) (.inl hk1)]
  rw [ecap]
  refine ⟨_, mset_same, Nat.lt_of_le_of_lt (putD_len _ _ _) (by decide), ?_⟩
  rw [mset_mset]
  refine comp_go (fun _ => some (.int 0)) (by rw [hll]; omega) (fun P hP x hx acc hla kk hk => ?_) (fun P3 h3 => ?_)
  · walk_at "rd"
    exact ⟨hla, hk⟩
  rw [mdel_mset h3, fm_some]
  refine ⟨_, mset_same, ?_⟩
  refine comp_go zerosF (by rw [hll]; omega) (fun P hP x hx acc hla kk hk => ?_) (fun P4 h4 => ?_)
  · obtain ⟨L, hL, rfl⟩ := List.mem_map.mp hx
    walk_at "rd"
    refine ⟨_, rfl, _, rfl, ?_⟩
    show gAllOf (.lst (waysX L.ws)) _ _
    walk_at "rd"
    refine comp_go (fun _ => some (.int 0)) (by unfold waysX; rw [List.length_map]; have := (hg L hL).len.2; omega) (fun P hP x hx acc hla kk hk => ?_) (fun P5 h5 => ?_)
    · walk_at "rd"
      exact ⟨hla, hk⟩
    rw [mdel_mset h5, fm_some]
    refine ⟨_, mset_same, _, mset_same, hla, ?_⟩
    rw [mset_mset]
    exact hk
  rw [mdel_mset h4, zeros_all]
  refine ⟨_, mset_same, by omega, _, mset_same, Nat.lt_of_le_of_lt (putD_len _ _ _) (Nat.lt_of_le_of_lt (Nat.succ_le_succ (putD_len _ _ _)) (by decide)), fun Q hQ => ?_⟩
  have efirst : (D.tup [.int 0, .tup ((Ls.map limX).map fun _ => .int 0), .tup (Ls.map fun L => tupI (L.ws.map fun _ => 0))]) = stdX (freshL Ls) := by
    unfold stdX freshL
    have e1 : ((Ls.map limX).map fun _ => D.int 0) = (Ls.map fun _ => (0 : Int)).map D.int := by
      rw [List.map_map, List.map_map]
      rfl
    have e2 : (Ls.map fun L => tupI (L.ws.map fun _ => (0 : Int))) = (Ls.map fun L => L.ws.map fun _ => (0 : Int)).map tupI := by
      rw [List.map_map]
      rfl
    rw [e1, e2]
    rfl
  rw [efirst, mset_mset] at hQ ⊢
  have hpQ : p ≠ Q := hne hQ
  refine ⟨_, by rw [mset_ne hpQ, mset_same], ?_, ?_⟩
  · exact Nat.lt_of_le_of_lt (putD_len _ _ _) (Nat.lt_of_le_of_lt (Nat.succ_le_succ (putD_len _ _ _)) (Nat.lt_of_le_of_lt (Nat.succ_le_succ (Nat.succ_le_succ (putD_len _ _ _))) (by decide)))
  rw [mset_comm (Ne.symm hpQ), mset_mset]
  have ebook : putD "steps" (.ref Q) (putD "first" (stdX (freshL Ls)) (putD "cap" (.int (capL Ls)) (putD "rules" (.tup (Ls.map limX)) []))) = bookF Ls (.ref Q) := rfl
  rw [ebook]
  refine ⟨_, insOf_ref (by first | rw [mset_ne hpQ, mset_same] | rw [mset_same]), _, rfl, by omega, fun V hV => ?_⟩
  have hQV : Q ≠ V := fun z => by
    rw [← z, mset_same] at hV
    cases hV
  rw [mset_ne (Ne.symm hQV)] at hV
  have hpV : p ≠ V := hne hV
  rw [mset_ne (Ne.symm hpQ)] at hQ
  rw [mset_ne (Ne.symm hpV)] at hV
  clear h1 h3 h4 hk1 hk2 hP
  generalize hcnt : D.tup (List.map (fun x => D.int 0) (List.map limX Ls)) = cnt
  refine ⟨fun k n m' => ∃ vis line y7, n = [some (.ref p), some (.lst (Ls.map limX)), none, none, none, some cnt, some (.ref V), y7, none] ∧ m' = mset (mset (mset m p (.ins "Book" (bookF Ls (.ref Q)))) Q (.dct true (tabX Ls vis))) V (.lst (line.map stdX)) ∧ vis.Nodup ∧ (∀ s ∈ vis, s ∈ S) ∧ (∀ s ∈ line, s ∈ S) ∧ (∀ s ∈ vis, StdOk Ls s) ∧ (∀ s ∈ line, StdOk Ls s) ∧ (∀ s ∈ vis, ∀ u ∈ letC, goalL Ls (capL Ls) s u ∈ vis ∨ goalL Ls (capL Ls) s u ∈ line) ∧ (freshL Ls ∈ vis ∨ freshL Ls ∈ line) ∧ line.length ≤ 4 * vis.length + 1 ∧ k = (S.length - vis.length) * 5 + line.length,
    ⟨_, [], [freshL Ls], _, rfl, rfl, List.nodup_nil, by simp, by simpa using hS.fresh, by simp, by simpa using std_fresh Ls, by simp, .inr (by simp), by simp, rfl⟩, ?_⟩
  rintro k0 n m' ⟨vis, line, y7, rfl, rfl, hnd, hvS, hlS, hvo, hlo, hcl, hfr, hll2, rfl⟩
  have hvl : vis.length ≤ S.length := nodup_le hnd hvS
  walk_at "rd"
  have hVm : mset (mset m p (.ins "Book" (bookF Ls (.ref Q)))) Q (.dct true (tabX Ls vis)) V = none := by
    rw [mset_ne (Ne.symm hQV), mset_ne (Ne.symm hpV)]
    exact hV
  rcases List.eq_nil_or_concat line with rfl | ⟨l, s, rfl⟩
  · refine ⟨false, rfl, ?_⟩
    rw [if_neg (by decide)]
    have fin : ∀ {a : Std}, a ∈ vis ∨ a ∈ ([] : List Std) → a ∈ vis := fun h => h.elim id fun z => absurd z List.not_mem_nil
    exact rt_sub ((Sub.refl _).add hVm) (k Q vis hQ ⟨hnd, fun T hT s hs => hmin s (hvS s hs) T hT⟩ ⟨⟨fun s hs => getT_tab Ls hs, fun s u hs hu => fin (hcl s hs u hu), hvo, fin hfr⟩, hg, hl⟩)
  rw [List.concat_eq_append] at *
  refine ⟨true, by simp, ?_⟩
  rw [if_pos rfl]
  refine ⟨_, fun _ _ h => h, ⟨_, rfl⟩, stdX s, by simp, ?_⟩
  have hdl : (List.map stdX (l ++ [s])).dropLast = l.map stdX := by simp
  rw [hdl]
  have hmp : ∀ o : MO, mset (mset (mset m p (.ins "Book" (bookF Ls (.ref Q)))) Q (.dct true (tabX Ls vis))) V o p = some (.ins "Book" (bookF Ls (.ref Q))) := fun o => by
    rw [mset_ne hpV, mset_ne hpQ, mset_same]
  have hmQ : ∀ o : MO, mset (mset (mset m p (.ins "Book" (bookF Ls (.ref Q)))) Q (.dct true (tabX Ls vis))) V o Q = some (.dct true (tabX Ls vis)) := fun o => by
    rw [mset_ne hQV, mset_same]
  have hsS := hlS s (by simp)
  have hso := hlo s (by simp)
  refine ⟨_, insOf_ref (hmp _), _, rfl, inT_of (kvs := tabX Ls vis) (by show moDct _ = _; rw [hmQ]; rfl) ⟨_, rfl, ?_⟩⟩
  by_cases hsv : s ∈ vis
  · rw [getT_tab Ls hsv]
    rw [if_neg (by simp)]
    refine ⟨_, insOf_ref (hmp _), _, rfl, true, tabX Ls vis, by show moDct _ = _; rw [hmQ]; rfl, ?_⟩
    have htl : (tabX Ls vis).length = vis.length := by
      unfold tabX
      rw [List.length_map]
    rw [htl, if_neg (by simp only [decide_eq_true_eq]; omega)]
    have dr : ∀ {a : Std}, a ∈ vis ∨ a ∈ l ++ [s] → a ∈ vis ∨ a ∈ l := fun {a} h => by
      rcases h with h | h
      · exact .inl h
      · rcases List.mem_append.mp h with h | h
        · exact .inr h
        · left
          have : a = s := by simpa using h
          rw [this]
          exact hsv
    exact ⟨(S.length - vis.length) * 5 + l.length, by rw [List.length_append, List.length_cons, List.length_nil]; omega, vis, l, _, rfl, rfl, hnd, hvS, fun a ha => hlS a (List.mem_append_left _ ha), hvo, fun a ha => hlo a (List.mem_append_left _ ha), fun a ha u hu => dr (hcl a ha u hu), dr hfr, by rw [List.length_append] at hll2; omega, rfl⟩
  · rw [getT_no Ls hsv]
    rw [if_pos (by simp)]
    intro P hP
    have hpP : p ≠ P := fun z => by rw [← z, hmp] at hP; cases hP
    have hQP : Q ≠ P := fun z => by rw [← z, hmQ] at hP; cases hP
    refine dc_fn (fun u => stepX Ls (capL Ls) s u) [100, 119, 97, 114] [] (by decide) (by decide) (fun _ _ => rfl) (fun u hu acc kk hno hla hk => ?_) ?_
    · rw [nm_T]
      walk_at "rd"
      refine ⟨_, insOf_ref (by rw [mset_ne hpP]; exact hmp _), rfl, _, _, Ls, capL Ls, s, u, rfl, insOf_ref (by rw [mset_ne hpP]; exact hmp _), ⟨rfl, rfl, rfl, hg, hl.2⟩, hso, ?_⟩
      exact ⟨acc, mset_same, _, rfl, hno, by omega, by rw [mset_mset]; exact hk⟩
    rw [List.nil_append, mdel_mset hP]
    have hrow : D.dct false ([100, 119, 97, 114].map fun u => (D.str [u], stepX Ls (capL Ls) s u)) = rowX Ls (capL Ls) s := rfl
    refine ⟨_, mset_same, _, insOf_ref (hmp _), _, rfl, Q, rfl, tabX Ls vis, _, rfl, hmQ _, nkS s, nkS_of s, depth_S s, getT_no Ls hsv, ?_, ?_⟩
    · unfold tabX
      rw [List.length_map]
      omega
    have htab : tabX Ls vis ++ [(stdX s, D.dct false ([100, 119, 97, 114].map fun u => (D.str [u], stepX Ls (capL Ls) s u)))] = tabX Ls (vis ++ [s]) := by
      unfold tabX
      rw [List.map_append]
      rfl
    rw [htab]
    have emem : mset (mset (mset (mset m p (.ins "Book" (bookF Ls (.ref Q)))) Q (.dct true (tabX Ls vis))) V (.lst (l.map stdX))) Q (.dct true (tabX Ls (vis ++ [s]))) = mset (mset (mset m p (.ins "Book" (bookF Ls (.ref Q)))) Q (.dct true (tabX Ls (vis ++ [s])))) V (.lst (l.map stdX)) := by
      rw [mset_comm hQV, mset_mset]
      exact mset_comm (Ne.symm hQV)
    rw [emem]
    have np : ∀ o : MO, mset (mset (mset m p (.ins "Book" (bookF Ls (.ref Q)))) Q (.dct true (tabX Ls (vis ++ [s])))) V o p = some (.ins "Book" (bookF Ls (.ref Q))) := fun o => by
      rw [mset_ne hpV, mset_ne hpQ, mset_same]
    have nQ : ∀ o : MO, mset (mset (mset m p (.ins "Book" (bookF Ls (.ref Q)))) Q (.dct true (tabX Ls (vis ++ [s])))) V o Q = some (.dct true (tabX Ls (vis ++ [s]))) := fun o => by
      rw [mset_ne hQV, mset_same]
    have hnd2 : (vis ++ [s]).Nodup := by
      rw [List.nodup_append]
      refine ⟨hnd, by simp, fun a ha b hb e => hsv ?_⟩
      have : b = s := by simpa using hb
      rw [← this, ← e]
      exact ha
    have hvS2 : ∀ a ∈ vis ++ [s], a ∈ S := fun a ha => by
      rcases List.mem_append.mp ha with h | h
      · exact hvS a h
      · have : a = s := by simpa using h
        rw [this]
        exact hsS
    have hv2 := nodup_le hnd2 hvS2
    rw [List.length_append, List.length_cons, List.length_nil] at hv2
    refine ⟨⟨l.map stdX, by rw [mset_same]; rfl⟩, comp_go (onC fun u => stdX (goalL Ls (capL Ls) s u)) (by decide) (fun P5 h5 x hx acc hla kk hk => ?_) fun P5 h5 => ?_⟩
    · obtain ⟨c, hc, rfl⟩ := mem_chars hx
      have hp5 : p ≠ P5 := fun z => by rw [← z, np] at h5; cases h5
      have hQ5 : Q ≠ P5 := fun z => by rw [← z, nQ] at h5; cases h5
      walk_at "rd"
      refine ⟨_, insOf_ref (by rw [mset_ne hp5]; exact np _), _, rfl, ixT_of (kvs := tabX Ls (vis ++ [s])) (by show moDct _ = _; rw [mset_ne hQ5, nQ]; rfl) (getT_tab Ls (by simp)) (ixK_of hc ?_)⟩
      unfold stepX
      walk_at "rd"
      exact ⟨hla, hk⟩
    · rw [mdel_mset h5, chars_filterMap]
      have hl4 : l.length + 1 ≤ 4 * vis.length + 1 := by
        rw [List.length_append, List.length_cons, List.length_nil] at hll2
        exact hll2
      have hg4 : (letC.map fun u => goalL Ls (capL Ls) s u).length = 4 := rfl
      refine ⟨_, mset_same, l.map stdX, mset_same, by rw [List.length_map]; show l.length + 4 ≤ _; omega, _, insOf_ref (by rw [mset_mset]; exact np _), _, rfl, true, tabX Ls (vis ++ [s]), by show moDct _ = _; rw [mset_mset, nQ]; rfl, ?_⟩
      have htl : (tabX Ls (vis ++ [s])).length = vis.length + 1 := by
        unfold tabX
        rw [List.length_map, List.length_append]
        rfl
      rw [htl, if_neg (by simp only [decide_eq_true_eq]; omega), mset_mset]
      have hvl2 : (vis ++ [s]).length = vis.length + 1 := by
        rw [List.length_append]
        rfl
      have hll3 : (l ++ letC.map fun u => goalL Ls (capL Ls) s u).length = l.length + 4 := by
        rw [List.length_append, hg4]
      have hmes : (S.length - (vis ++ [s]).length) * 5 + (l ++ letC.map fun u => goalL Ls (capL Ls) s u).length < (S.length - vis.length) * 5 + (l ++ [s]).length := by
        rw [hvl2, hll3, List.length_append, List.length_cons, List.length_nil]
        omega
      have hgo : ∀ a ∈ letC.map (fun u => goalL Ls (capL Ls) s u), a ∈ S ∧ StdOk Ls a := fun a ha => by
        obtain ⟨u, hu, rfl⟩ := List.mem_map.mp ha
        exact ⟨hS.go s hsS u hu, std_goal hso _ _⟩
      have mv : ∀ {a : Std}, a ∈ vis ∨ a ∈ l ++ [s] → a ∈ vis ++ [s] ∨ a ∈ l ++ letC.map fun u => goalL Ls (capL Ls) s u := fun {a} h => by
        rcases h with h | h
        · exact .inl (List.mem_append_left _ h)
        · rcases List.mem_append.mp h with h | h
          · exact .inr (List.mem_append_left _ h)
          · exact .inl (List.mem_append_right _ h)
      refine ⟨_, hmes, vis ++ [s], l ++ letC.map (fun u => goalL Ls (capL Ls) s u), _, rfl, by rw [List.map_append, List.map_map]; rfl, hnd2, hvS2, fun a ha => ?_, fun a ha => ?_, fun a ha => ?_, fun a ha u hu => ?_, mv hfr, by rw [hll3, hvl2]; omega, rfl⟩
      · rcases List.mem_append.mp ha with h | h
        · exact hlS a (List.mem_append_left _ h)
        · exact (hgo a h).1
      · rcases List.mem_append.mp ha with h | h
        · exact hvo a h
        · have : a = s := by simpa using h
          rw [this]
          exact hso
      · rcases List.mem_append.mp ha with h | h
        · exact hlo a (List.mem_append_left _ h)
        · exact (hgo a h).2
      · rcases List.mem_append.mp ha with h | h
        · exact mv (hcl a h u hu)
        · have : a = s := by simpa using h
          rw [this]
          exact .inr (List.mem_append_right _ (List.mem_map_of_mem hu))
end DL

namespace DL
open PySem PySem.Spec PyProof.Rows L2
/-! the law's own steps of books -/
local macro_rules | `(tactic| walk_at "rd") => `(tactic| simp only [rSetT, rDct0T, rDct1T, rDc, rLcG, rbClause, rbEmit, rZip2, rZip3, rCallO, gLenD, gLenO, gMaxL, gSortL, gSortLO, rFld, rSetF, rMeth, rMake, rFrzI, rProp, rIsC, rRev, rAllK, rLcK, rLcKO, ew0, ew1, ew2, ew3, ew4, ew5, ew6, rRaise, rTry, xCls, enO, setO, rXf, rIsX, Option.elim_some, Option.elim_none, rSeq, rSet, rAsg, rRet, rRetN, rDrop, rIf, rSkip, rVar, rC, rOp, rUn, rTst, rTru, rNot, rAnd, rOr, rAndV, rOrV, rNotV, rIfE, rChain, rCons, rNil, rTup, rLst, rLstO, rCB, rLM, rSM, rSl, rPart, rNoPart, rAll, rRng1, rRng2, rFor, rCall, rAug, rSetIx, rLenSet, rFmt, rJoined, rJs, rLc, rLcO, rFrz, setAll, rYes, rNever, wipeN, nvs, enD, turnD, gNe, gLt, gLe, gGt, gGe, gIn, gNotIn, gIs, gIsNot, gMod, gFdiv, gPow, gAppend, gPop, gPopAt, gClear, gReverse, gExtend, gJoin, gSplit, nm_T, tp_T, at_0, at_1, at_2, at_3, at_4, at_5, at_6, at_7, ix_0, ix_1, ix_2, ix_3, ix_4, List.map_cons, List.map_nil, List.length_cons, List.length_nil, List.replicate, List.cons_append, List.nil_append, List.getElem?_cons_zero, List.getElem?_cons_succ, List.set_cons_zero, List.set_cons_succ, Option.some.injEq, exists_eq_left', exists_eq_left, exists_and_left, D.int.injEq, D.str.injEq, D.bl.injEq, D.ref.injEq, D.tup.injEq, D.lst.injEq, MO.lst.injEq, List.cons.injEq, and_true, true_and, if_true, if_false, Bool.false_eq_true, Nat.reduceSub, Nat.reduceAdd, reduceIte, reduceCtorEq, mset_same, mset_mset, Bool.not_true, Bool.not_false, imp_self, implies_true, not_false_eq_true, forall_const, ev0, ev1, ev2, ev3, ev4, ev5, ev6, ev7, ev8, ev9, ev10, ev11, ev12, ev13, ev14, ev15, ev16, ev17, ev18, ev19, ev20, ev21, ev22, ev23, ev24, ev25, ev26, ev27, ev28, ev29, ev30, ev31, ev32, ev33, ev34, ev35, ev36, ev37, ev38, ev39, ev40, ev41, ev42, ev43, ev44, ev45, ev46, ev47, ev48, ev49, ev50, ev51, ev52, ev53, ev54, ev55, ev56, ev57, ev58, ev59, ev60, ev61, ev62, ev63, ev64, ev65, ev66, ev67, ev68, ev69, ev70, ev71, ev72, ev73, ev74, ev75, ev76, ev77, ev78, ev79, ev80, ev81, ev82, ev83, ev84, ev85, ev86, ev87, ev88, ev89, ev90, ev91, ev92, ev93, ev94, ev95, ev96, ev97, ev98, ev99, ev100, ev101, ev102, ev103, ev104, ev105, ev106, ev107, ev108, ev109, ev110, ev111, ev112, ev113, ev114, ev115, ev116, ev117, ev118, ev119, ev120, ev121, ev122, ev123, ev124, ev125, ev126, ev127, ev128, ev129, ev130, ev131, ev132, ev133, ev134, ev135, ev136, ev137, ev138, ev139, ev140, ev141, ev142, ev143, ev144, ev145, ev146, ev147, ev148, ev149, ev150, ev151, ev152, ev153, ev154, ev155, ev156, ev157, ev158, ev159, ev160, ev161, ev162])
local macro_rules | `(tactic| walk_at "rq") => `(tactic| simp only [rSetT, rDct0T, rDct1T, rDc, rLcG, rbClause, rbEmit, rZip2, rZip3, rCallO, gLenD, gLenO, gMaxL, gSortL, gSortLO, rFld, rSetF, rMeth, rMake, rFrzI, rProp, rIsC, rRev, rAllK, rLcK, rLcKO, ew0, ew1, ew2, ew3, ew4, ew5, ew6, rRaise, rTry, xCls, enO, setO, rXf, rIsX, Option.elim_some, Option.elim_none, rSeq, rSet, rAsg, rRet, rRetN, rDrop, rIf, rSkip, rVar, rC, rOp, rUn, rTst, rTru, rNot, rAnd, rOr, rAndV, rOrV, rNotV, rIfE, rChain, rCons, rNil, rTup, rLst, rLstO, rCB, rLM, rSM, rSl, rPart, rNoPart, rAll, rRng1, rRng2, rFor, rCall, rAug, rSetIx, rLenSet, rFmt, rJoined, rJs, rLc, rLcO, rFrz, setAll, rYes, rNever, wipeN, nvs, enD, turnD, gNe, gLt, gLe, gGt, gGe, gIn, gNotIn, gIs, gIsNot, gMod, gFdiv, gPow, gAppend, gPop, gPopAt, gClear, gReverse, gExtend, gJoin, gSplit, nm_T, tp_T, at_0, at_1, at_2, at_3, at_4, at_5, at_6, at_7, ix_0, ix_1, ix_2, ix_3, ix_4, List.map_cons, List.map_nil, List.length_cons, List.length_nil, List.replicate, List.cons_append, List.nil_append, List.getElem?_cons_zero, List.getElem?_cons_succ, List.set_cons_zero, List.set_cons_succ, Option.some.injEq, exists_eq_left', exists_eq_left, exists_and_left, D.int.injEq, D.str.injEq, D.bl.injEq, D.ref.injEq, D.tup.injEq, D.lst.injEq, MO.lst.injEq, List.cons.injEq, and_true, true_and, if_true, if_false, Bool.false_eq_true, Nat.reduceSub, Nat.reduceAdd, reduceIte, reduceCtorEq, mset_same, mset_mset, Bool.not_true, Bool.not_false, imp_self, implies_true, not_false_eq_true, forall_const, ev0, ev1, ev2, ev3, ev4, ev5, ev6, ev7, ev8, ev9, ev10, ev11, ev12, ev13, ev14, ev15, ev16, ev17, ev18, ev19, ev20, ev21, ev22, ev23, ev24, ev25, ev26, ev27, ev28, ev29, ev30, ev31, ev32, ev33, ev34, ev35, ev36, ev37, ev38, ev39, ev40, ev41, ev42, ev43, ev44, ev45, ev46, ev47, ev48, ev49, ev50, ev51, ev52, ev53, ev54, ev55, ev56, ev57, ev58, ev59, ev60, ev61, ev62, ev63, ev64, ev65, ev66, ev67, ev68, ev69, ev70, ev71, ev72, ev73, ev74, ev75, ev76, ev77, ev78, ev79, ev80, ev81, ev82, ev83, ev84, ev85, ev86, ev87, ev88, ev89, ev90, ev91, ev92, ev93, ev94, ev95, ev96, ev97, ev98, ev99, ev100, ev101, ev102, ev103, ev104, ev105, ev106, ev107, ev108, ev109, ev110, ev111, ev112, ev113, ev114, ev115, ev116, ev117, ev118, ev119, ev120, ev121, ev122, ev123, ev124, ev125, ev126, ev127, ev128, ev129, ev130, ev131, ev132, ev133, ev134, ev135, ev136, ev137, ev138, ev139, ev140, ev141, ev142, ev143, ev144, ev145, ev146, ev147, ev148, ev149, ev150, ev151, ev152, ev153, ev154, ev155, ev156, ev157, ev158, ev159, ev160, ev161, ev162, Int.reduceEq, Int.reduceNe, Int.reduceLT, Int.reduceLE, Int.reduceNeg, decide_true, decide_false])
def N__law_mark : List Str := ["_law_way", "_law_mark_here", "_law_unit", "_law_rest"]
def rd__law_mark : RS := rSeq (rIf (rAnd (rTst (rOp gEq (rVar 1) (rC (.int 1)))) (rTst (rOp gNe (rVar 2) (rC (.str [114]))))) (rRet (rC (.int 2))) (rSkip))
  (rSeq (rIf (rAnd (rTst (rOp gEq (rVar 1) (rC (.int 0)))) (rAnd (rTst (rOp gEq (rCB gLen (rCons (rVar 0) (rNil))) (rC (.int 2)))) (rAnd (rTst (rOp gEq (rVar 2) (rC (.str [114])))) (rTst (rOp gEq (rVar 3) (rOp gIx (rVar 0) (rC (.int 0)))))))) (rRet (rC (.int 1))) (rSkip))
  (rRet (rVar 1)))

def sp__law_mark : SpD := fun ds m q _ => ∃ w k u r, ds = [wayX w, .int k, .str [u], .int r] ∧ 1 ≤ w.length ∧ q (.int (markV w k u r)) m
theorem rl__law_mark : ∀ ds m q xf, sp__law_mark ds m q xf → ds.length = ["_law_way", "_law_mark_here", "_law_unit", "_law_rest"].length := fun ds m q xf ⟨_, _, _, _, e, _⟩ => by rw [e]; rfl
theorem rp__law_mark : ∀ ds m q xf, sp__law_mark ds m q xf → rd__law_mark (xdD xf) (enD q) (nvs N__law_mark ds) m := by
  rintro ds m q xf ⟨w, k0, u, r, rfl, hw, k⟩
  obtain ⟨w0, wr, rfl⟩ : ∃ w0 wr, w = w0 :: wr := by
    cases w with
    | nil => exact absurd hw (Nat.not_succ_le_zero 0)
    | cons a b => exact ⟨a, b, rfl⟩
  unfold rd__law_mark N__law_mark wayX
  have fin : ∀ v : Int, markV (w0 :: wr) k0 u r = v → rtD q (.int v) m := fun v hv => by
    rw [hv] at k
    exact rt_same k
  have m2 : k0 = 1 → ¬ u = 114 → markV (w0 :: wr) k0 u r = 2 := fun a b => by
    unfold markV
    rw [if_pos ⟨a, b⟩]
  have m1 : k0 = 0 → wr.length = 1 → u = 114 → r = w0 → markV (w0 :: wr) k0 u r = 1 := fun a b c d => by
    unfold markV
    rw [if_neg (fun z => z.2 c), if_pos ⟨a, by rw [List.length_cons, b], c, by rw [d]; rfl⟩]
  have m0 : ¬ (k0 = 1 ∧ ¬ u = 114) → ¬ (k0 = 0 ∧ wr.length = 1 ∧ u = 114 ∧ r = w0) → markV (w0 :: wr) k0 u r = k0 := fun a b => by
    unfold markV
    rw [if_neg a, if_neg (fun z => b ⟨z.1, by have := z.2.1; rw [List.length_cons] at this; omega, z.2.2.1, by have := z.2.2.2; simp at this; exact this.symm⟩)]
  have hwl : (List.map D.int wr).length = wr.length := List.length_map ..
  walk_at "rd"
  rw [hwl]
  refine ite2 (fun h1 => ite2 (fun h2 => fin 2 (m2 (of_decide_eq_true h1) (by simpa using h2))) fun h2 => ?_) fun h1 => ?_
  · have h1 := of_decide_eq_true h1
    refine ite2 (fun h3 => absurd (of_decide_eq_true h3) (by omega)) fun h3 => fin k0 (m0 (fun z => h2 (by simpa using z.2)) fun z => by have := z.1; omega)
  · have h1 : ¬ k0 = 1 := fun z => h1 (decide_eq_true z)
    have n1 : ¬ (k0 = 1 ∧ ¬ u = 114) := fun z => h1 z.1
    refine ite2 (fun h3 => ite2 (fun h4 => ite2 (fun h5 => ite2 (fun h6 => fin 1 (m1 (of_decide_eq_true h3) (by have := of_decide_eq_true h4; omega) (of_decide_eq_true h5) (of_decide_eq_true h6))) fun h6 => fin k0 (m0 n1 fun z => h6 (decide_eq_true z.2.2.2))) fun h5 => fin k0 (m0 n1 fun z => h5 (decide_eq_true z.2.2.1))) fun h4 => fin k0 (m0 n1 fun z => h4 (decide_eq_true (by rw [z.2.1]; rfl)))) fun h3 => fin k0 (m0 n1 fun z => h3 (decide_eq_true z.1))
def N__law_is_full : List Str := ["_law_way", "_law_mark_here", "_law_rest"]
def rd__law_is_full : RS := rSeq (rIf (rTst (rOp gEq (rCB gLen (rCons (rVar 0) (rNil))) (rC (.int 1)))) (rRet (rOp gGe (rVar 2) (rOp gIx (rVar 0) (rC (.int 0))))) (rSkip))
  (rRet (rAndV (rOp gEq (rVar 1) (rC (.int 2))) (rOp gGe (rVar 2) (rOp gIx (rVar 0) (rC (.int 1))))))

def sp__law_is_full : SpD := fun ds m q _ => ∃ w k r, ds = [wayX w, .int k, .int r] ∧ 1 ≤ w.length ∧ w.length ≤ 2 ∧ q (.bl (fullV w k r)) m
theorem rl__law_is_full : ∀ ds m q xf, sp__law_is_full ds m q xf → ds.length = ["_law_way", "_law_mark_here", "_law_rest"].length := fun ds m q xf ⟨_, _, _, e, _⟩ => by rw [e]; rfl
theorem rp__law_is_full : ∀ ds m q xf, sp__law_is_full ds m q xf → rd__law_is_full (xdD xf) (enD q) (nvs N__law_is_full ds) m := by
  rintro ds m q xf ⟨w, k0, r, rfl, hw, hw2, k⟩
  unfold rd__law_is_full N__law_is_full wayX
  match w, hw, hw2, k with
  | [a], _, _, k =>
    walk_at "rd"
    rw [if_pos (by decide)]
    have e : fullV [a] k0 r = decide (a ≤ r) := by
      unfold fullV
      simp
    rw [e] at k
    exact rt_same k
  | [a, b], _, _, k =>
    walk_at "rd"
    rw [if_neg (by decide)]
    have e : fullV [a, b] k0 r = (decide (k0 = 2) && decide (b ≤ r)) := by
      unfold fullV
      simp [Bool.and_comm]
    rw [e] at k
    cases h : decide (k0 = 2)
    · rw [h] at k
      exact rt_same k
    · rw [h] at k
      rw [if_pos rfl]
      exact rt_same k
def N__law_fresh : List Str := ["_law_plain", "_law_counts", "_law_limit_here", "_law_way"]
def rd__law_fresh : RS := rSeq (rSet (rCB gTuple (rCons (rLc (rAll (rVar 0)) (.nm 2) (rYes) (rC (.int 0)) [2]) (rNil))) 1)
  (rRet (rTup (rCons (rC (.int 0)) (rCons (rVar 1) (rCons (rCB gTuple (rCons (rLc (rAll (rVar 0)) (.nm 2) (rYes) (rCB gTuple (rCons (rLc (rAll (rOp gIx (rVar 2) (rC (.int 2)))) (.nm 3) (rYes) (rC (.int 0)) [3]) (rNil))) [2]) (rNil))) (rNil))))))

def sp__law_fresh : SpD := fun ds m q _ => ∃ Ls, ds = [.lst (Ls.map triX)] ∧ (∀ L ∈ Ls, GoodL L) ∧ Ls.length ≤ 4 ∧ q (stdX (freshL Ls)) m
theorem rl__law_fresh : ∀ ds m q xf, sp__law_fresh ds m q xf → ds.length = ["_law_plain"].length := fun ds m q xf ⟨_, e, _⟩ => by rw [e]; rfl
def zerosT : D → Option D
  | .tup [_, _, .lst ws] => some (.tup (ws.map fun _ => .int 0))
  | _ => none
theorem zerosT_all : ∀ Ls : List Lim, (Ls.map triX).filterMap zerosT = Ls.map fun L => tupI (L.ws.map fun _ => 0)
  | [] => rfl
  | L :: Ls => by
    rw [List.map_cons, List.filterMap_cons_some (show zerosT (triX L) = some (tupI (L.ws.map fun _ => 0)) by
      show some (D.tup ((waysX L.ws).map fun _ => .int 0)) = _
      unfold tupI waysX
      rw [List.map_map, List.map_map]
      rfl), zerosT_all Ls]
    rfl
theorem rp__law_fresh : ∀ ds m q xf, sp__law_fresh ds m q xf → rd__law_fresh (xdD xf) (enD q) (nvs N__law_fresh ds) m := by
  rintro ds m q xf ⟨Ls, rfl, hg, hl, k⟩
  unfold rd__law_fresh N__law_fresh
  have hz : sizeLine = 16777216 := sizeLine_eq
  have hll : (Ls.map triX).length = Ls.length := List.length_map ..
  walk_at "rd"
  refine comp_go (fun _ => some (.int 0)) (by rw [hll]; omega) (fun P hP x hx acc hla kk hk => ?_) (fun P3 h3 => ?_)
  · walk_at "rd"
    exact ⟨hla, hk⟩
  rw [mdel_mset h3, fm_some]
  refine ⟨_, mset_same, ?_⟩
  refine comp_go zerosT (by rw [hll]; omega) (fun P hP x hx acc hla kk hk => ?_) (fun P4 h4 => ?_)
  · obtain ⟨L, hL, rfl⟩ := List.mem_map.mp hx
    unfold triX
    walk_at "rd"
    refine comp_go (fun _ => some (.int 0)) (by unfold waysX; rw [List.length_map]; have := (hg L hL).len.2; omega) (fun P hP x hx acc hla kk hk => ?_) (fun P5 h5 => ?_)
    · walk_at "rd"
      exact ⟨hla, hk⟩
    rw [mdel_mset h5, fm_some]
    refine ⟨_, mset_same, _, mset_same, hla, ?_⟩
    rw [mset_mset]
    exact hk
  rw [mdel_mset h4, zerosT_all]
  refine ⟨_, mset_same, by omega, rt_same ?_⟩
  have e1 : ((Ls.map triX).map fun _ => D.int 0) = (Ls.map fun _ => (0 : Int)).map D.int := by
    rw [List.map_map, List.map_map]
    rfl
  have e2 : (Ls.map fun L => tupI (L.ws.map fun _ => (0 : Int))) = (Ls.map fun L => L.ws.map fun _ => (0 : Int)).map tupI := by
    rw [List.map_map]
    rfl
  rw [e1, e2]
  exact k
def N__law_top : List Str := ["_law_plain", "_law_found", "_law_kinds_here", "_law_most", "_law_ways", "_law_way"]
def rd__law_top : RS := rSeq (rSet (rC (.int 0)) 1)
  (rSeq (rFor (rAll (rVar 0)) (.tp [2, 3, 4]) (rFor (rAll (rVar 4)) (.nm 5) (rSet (rCB gMax2 (rCons (rVar 1) (rCons (rCB gMaxL (rCons (rVar 5) (rNil))) (rNil)))) 1)))
  (rRet (rOp gAdd (rVar 1) (rC (.int 1)))))

theorem fold_way {w : List Int} {a k : Int} (h1 : k ∈ w) (h2 : ∀ y ∈ w, y ≤ k) : w.foldl max a = max a k := by
  by_cases h : a ≤ k
  · rw [Int.max_eq_right h]
    exact fold_max w a k h2 h (.inl h1)
  · rw [Int.max_eq_left (by omega)]
    exact fold_max w a a (fun y hy => by have := h2 y hy; omega) (Int.le_refl _) (.inr rfl)
def sp__law_top : SpD := fun ds m q _ => ∃ Ls, ds = [.lst (Ls.map triX)] ∧ (∀ L ∈ Ls, GoodL L) ∧ q (.int (capL Ls)) m
theorem rl__law_top : ∀ ds m q xf, sp__law_top ds m q xf → ds.length = ["_law_plain"].length := fun ds m q xf ⟨_, e, _⟩ => by rw [e]; rfl
theorem rp__law_top : ∀ ds m q xf, sp__law_top ds m q xf → rd__law_top (xdD xf) (enD q) (nvs N__law_top ds) m := by
  rintro ds m q xf ⟨Ls, rfl, hg, k⟩
  unfold rd__law_top N__law_top
  walk_at "rd"
  refine for_step (fun xs n m' => ∃ Ms a y2 y3 y4 y5, xs = Ms.map triX ∧ n = [some (.lst (Ls.map triX)), some (.int a), y2, y3, y4, y5] ∧ m' = m ∧ (∀ L ∈ Ms, GoodL L) ∧ (Ms.flatMap fun L => L.ws.flatten).foldl max a = (Ls.flatMap fun L => L.ws.flatten).foldl max 0) ?_ ?_ _ _ _ ⟨Ls, 0, _, _, _, _, rfl, rfl, rfl, hg, rfl⟩
  · rintro n m' ⟨Ms, a, y2, y3, y4, y5, ex, rfl, rfl, _, er⟩
    have ex : Ms = [] := by
      cases Ms with
      | nil => rfl
      | cons _ _ => cases ex
    subst ex
    have er : a = (Ls.flatMap fun L => L.ws.flatten).foldl max 0 := er
    walk_at "rd"
    unfold capL at k
    rw [← er] at k
    rw [Int.add_comm]
    exact rt_same k
  · rintro x xs n m' ⟨Ms, a, y2, y3, y4, y5, ex, rfl, rfl, hM, er⟩ kk hk
    cases Ms with
    | nil => cases ex
    | cons L Ms =>
      rw [List.map_cons] at ex
      injection ex with e1 e2
      subst e1 e2
      have gL := hM L List.mem_cons_self
      unfold triX
      walk_at "rd"
      refine for_step (fun xs n m2 => ∃ ws a y5, xs = waysX ws ∧ n = [some (.lst (Ls.map triX)), some (.int a), some (.str L.cs), some (.int L.b), some (.lst (waysX L.ws)), y5] ∧ m2 = m' ∧ (∀ w ∈ ws, w ∈ L.ws) ∧ (ws.flatten ++ Ms.flatMap fun L => L.ws.flatten).foldl max a = (Ls.flatMap fun L => L.ws.flatten).foldl max 0) ?_ ?_ _ _ _ ⟨L.ws, a, _, rfl, rfl, rfl, fun _ h => h, er⟩
      · rintro n m2 ⟨ws, a, y5, ew, rfl, rfl, _, er⟩
        have ew : ws = [] := by
          cases ws with
          | nil => rfl
          | cons _ _ => cases ew
        subst ew
        exact hk _ _ ⟨Ms, a, _, _, _, _, rfl, rfl, rfl, fun M hM' => hM M (List.mem_cons_of_mem _ hM'), er⟩
      · rintro x xs n m2 ⟨ws, a, y5, ew, rfl, rfl, hw, er⟩ kk2 hk2
        cases ws with
        | nil => cases ew
        | cons w ws =>
          injection ew with e1 e2
          subst e1 e2
          have gw := gL.way w (hw w List.mem_cons_self)
          unfold wayX
          walk_at "rd"
          refine ⟨w, rfl, gw.1, fun k0 h1 h2 => ?_⟩
          have em : (if k0 > a then k0 else a) = w.foldl max a := by
            rw [fold_way h1 h2, Int.max_def]
            split <;> split <;> omega
          rw [em]
          refine hk2 _ _ ⟨ws, w.foldl max a, _, rfl, rfl, rfl, fun v hv => hw v (List.mem_cons_of_mem _ hv), ?_⟩
          rw [List.flatten_cons, List.append_assoc, List.foldl_append] at er
          exact er
def sp__law_step : SpD := fun ds m q _ => ∃ Ls s u, ds = [.lst (Ls.map triX), stdX s, .str [u]] ∧ (∀ L ∈ Ls, GoodL L) ∧ Ls.length ≤ 4 ∧ StdOk Ls s ∧ u ∈ letC ∧ q (stepX Ls (capL Ls) s u) m
theorem rl__law_step : ∀ ds m q xf, sp__law_step ds m q xf → ds.length = ["_law_plain", "_law_stand_here", "_law_unit"].length := fun ds m q xf ⟨_, _, _, e, _⟩ => by rw [e]; rfl
def N__law_stand : List Str := ["_law_plain", "_law_row_here", "_law_stand_here", "_law_unit"]
def rd__law_stand : RS := rSeq (rSet (rCall sp__law_fresh (rCons (rVar 0) (rNil))) 2)
  (rSeq (rFor (rAll (rVar 1)) (.nm 3) (rSet (rOp gIx (rCall sp__law_step (rCons (rVar 0) (rCons (rVar 2) (rCons (rVar 3) (rNil))))) (rC (.int 0))) 2))
  (rRet (rVar 2)))

def sp__law_stand : SpD := fun ds m q _ => ∃ Ls rs, ds = [.lst (Ls.map triX), .str rs] ∧ (∀ L ∈ Ls, GoodL L) ∧ Ls.length ≤ 4 ∧ isRowC rs = true ∧ q (stdX (runL Ls (freshL Ls) rs)) m
theorem rl__law_stand : ∀ ds m q xf, sp__law_stand ds m q xf → ds.length = ["_law_plain", "_law_row_here"].length := fun ds m q xf ⟨_, _, e, _⟩ => by rw [e]; rfl
theorem rp__law_stand : ∀ ds m q xf, sp__law_stand ds m q xf → rd__law_stand (xdD xf) (enD q) (nvs N__law_stand ds) m := by
  rintro ds m q xf ⟨Ls, rs, rfl, hg, hl, hr, k⟩
  unfold rd__law_stand N__law_stand
  walk_at "rd"
  refine ⟨Ls, rfl, hg, hl, ?_⟩
  refine for_step (fun xs n m' => ∃ us s y, xs = chars us ∧ n = [some (.lst (Ls.map triX)), some (.str rs), some (stdX s), y] ∧ m' = m ∧ StdOk Ls s ∧ (∀ u ∈ us, u ∈ letC) ∧ runL Ls s us = runL Ls (freshL Ls) rs) ?_ ?_ _ _ _ ⟨rs, freshL Ls, _, rfl, rfl, rfl, std_fresh Ls, row_let hr, rfl⟩
  · rintro n m' ⟨us, s, y, eu, rfl, rfl, _, _, er⟩
    have eu : us = [] := by
      cases us with
      | nil => rfl
      | cons _ _ => cases eu
    subst eu
    walk_at "rd"
    rw [← er] at k
    exact rt_same k
  · rintro x xs n m' ⟨us, s, y, eu, rfl, rfl, hs, hu, er⟩ kk hk
    cases us with
    | nil => cases eu
    | cons u us =>
      injection eu with e1 e2
      subst e1 e2
      walk_at "rd"
      refine ⟨Ls, s, u, rfl, hg, hl, hs, hu u List.mem_cons_self, ?_⟩
      unfold stepX
      walk_at "rd"
      exact hk _ _ ⟨us, goalL Ls (capL Ls) s u, _, rfl, rfl, rfl, std_goal hs _ _, fun v hv => hu v (List.mem_cons_of_mem _ hv), er⟩
def N__law_breaches : List Str := ["_law_plain", "_law_before", "_law_row_here", "_law_stand_here", "_law_found", "_law_k", "_law_broken", "_law_limit_here"]
def rd__law_breaches : RS := rSeq (rSet (rCall sp__law_stand (rCons (rVar 0) (rCons (rVar 1) (rNil)))) 3)
  (rSeq (rSet (rLst (rNil)) 4)
  (rSeq (rFor (rRng1 (rCons (rCB gLen (rCons (rVar 2) (rNil))) (rNil))) (.nm 5) (rSeq (rAsg (rCall sp__law_step (rCons (rVar 0) (rCons (rVar 3) (rCons (rOp gIx (rVar 2) (rVar 5)) (rNil))))) (.tp [3, 6]))
  (rSet (rOp gAdd (rVar 4) (rLc (rAll (rVar 6)) (.nm 7) (rYes) (rTup (rCons (rVar 5) (rCons (rVar 7) (rNil)))) [7])) 4)))
  (rRet (rVar 4))))

def sp__law_breaches : SpD := fun ds m q _ => ∃ Ls bs rs, ds = [.lst (Ls.map triX), .str bs, .str rs] ∧ (∀ L ∈ Ls, GoodL L) ∧ Ls.length ≤ 4 ∧ isRowC bs = true ∧ isRowC rs = true ∧ q (.lst ((breL Ls (runL Ls (freshL Ls) bs) 0 rs).map breX)) m
theorem rl__law_breaches : ∀ ds m q xf, sp__law_breaches ds m q xf → ds.length = ["_law_plain", "_law_before", "_law_row_here"].length := fun ds m q xf ⟨_, _, _, e, _⟩ => by rw [e]; rfl
theorem run_ok {Ls : List Lim} : ∀ (us : List Nat) (s : Std), StdOk Ls s → StdOk Ls (runL Ls s us)
  | [], s, h => h
  | u :: us, s, h => run_ok us _ (std_goal h _ _)
theorem rp__law_breaches : ∀ ds m q xf, sp__law_breaches ds m q xf → rd__law_breaches (xdD xf) (enD q) (nvs N__law_breaches ds) m := by
  rintro ds m q xf ⟨Ls, bs, rs, rfl, hg, hl4, hbs, hr, k⟩
  unfold rd__law_breaches N__law_breaches
  have hz : sizeLine = 16777216 := sizeLine_eq
  have hl := row_len hr
  generalize hs0 : runL Ls (freshL Ls) bs = s0 at k
  have R0 : StdOk Ls s0 := by
    rw [← hs0]
    exact run_ok bs _ (std_fresh Ls)
  walk_at "rd"
  refine ⟨Ls, bs, rfl, hg, hl4, hbs, ?_⟩
  rw [hs0]
  refine ⟨by omega, by omega, by omega, by omega, ?_⟩
  refine for_step (fun xs n m' => ∃ i s acc y5 y6, i ≤ rs.length ∧ xs = rngD (i : Int) (rs.length - i) ∧ n = [some (.lst (Ls.map triX)), some (.str bs), some (.str rs), some (stdX s), some (.lst (acc.map breX)), y5, y6, none] ∧ m' = m ∧ StdOk Ls s ∧ acc.length ≤ 4 * i ∧ acc ++ breL Ls s i (rs.drop i) = breL Ls s0 0 rs) ?_ ?_ _ _ _ ⟨0, s0, [], _, _, Nat.zero_le _, rfl, rfl, rfl, R0, Nat.zero_le _, rfl⟩
  · rintro n m' ⟨i, s, acc, y5, y6, hi, ex, rfl, rfl, _, _, er⟩
    have ei : i = rs.length := by
      have := congrArg List.length ex
      rw [rngD_length, List.length_nil] at this
      omega
    subst ei
    rw [List.drop_length, breL, List.append_nil] at er
    walk_at "rd"
    rw [er]
    exact rt_same k
  · rintro x xs n m' ⟨i, s, acc, y5, y6, hi, ex, rfl, rfl, hs, hal, er⟩ kk hk
    have hlt : i < rs.length := by
      have := congrArg List.length ex
      rw [rngD_length, List.length_cons] at this
      omega
    rw [show rs.length - i = (rs.length - (i + 1)) + 1 by omega, rngD_succ] at ex
    injection ex with e1 e2
    subst e1 e2
    walk_at "rd"
    have hu : rs[i] ∈ letC := row_let hr _ (List.getElem_mem hlt)
    have eu : atI rs (i : Int) = some rs[i] := by
      have := atI_nat (xs := rs) hlt
      rwa [Int.zero_add] at this
    refine ⟨by omega, _, eu, Ls, s, rs[i], rfl, hg, hl4, hs, hu, ?_⟩
    unfold stepX brokX
    walk_at "rd"
    have hbl := brok_len hl4 (capL Ls) s rs[i]
    refine comp_go (pairF i) (by rw [List.length_map]; omega) (fun P2 h2 x hx a hla kk2 hk2 => ?_) fun P2 h2 => ?_
    · obtain ⟨j, _, rfl⟩ := List.mem_map.mp hx
      walk_at "rd"
      exact ⟨by omega, hla, hk2⟩
    · rw [mdel_mset h2, pairs_eq]
      refine ⟨_, mset_same, by rw [List.length_map, List.length_map, List.length_map]; omega, ?_⟩
      rw [← List.map_append]
      refine hk _ _ ⟨i + 1, goalL Ls (capL Ls) s rs[i], _, _, _, by omega, by congr 1, rfl, rfl, std_goal hs _ _, ?_, ?_⟩
      · rw [List.length_append, List.length_map]
        omega
      · rw [List.append_assoc]
        rw [List.drop_eq_getElem_cons hlt, breL] at er
        exact er
end DL

namespace DL
open PySem PySem.Spec PyProof.Rows L2
/-! the law's own step -/
local macro_rules | `(tactic| walk_at "rd") => `(tactic| simp only [rSetT, rDct0T, rDct1T, rDc, rLcG, rbClause, rbEmit, rZip2, rZip3, rCallO, gLenD, gLenO, gMaxL, gSortL, gSortLO, rFld, rSetF, rMeth, rMake, rFrzI, rProp, rIsC, rRev, rAllK, rLcK, rLcKO, ew0, ew1, ew2, ew3, ew4, ew5, ew6, rRaise, rTry, xCls, enO, setO, rXf, rIsX, Option.elim_some, Option.elim_none, rSeq, rSet, rAsg, rRet, rRetN, rDrop, rIf, rSkip, rVar, rC, rOp, rUn, rTst, rTru, rNot, rAnd, rOr, rAndV, rOrV, rNotV, rIfE, rChain, rCons, rNil, rTup, rLst, rLstO, rCB, rLM, rSM, rSl, rPart, rNoPart, rAll, rRng1, rRng2, rFor, rCall, rAug, rSetIx, rLenSet, rFmt, rJoined, rJs, rLc, rLcO, rFrz, setAll, rYes, rNever, wipeN, nvs, enD, turnD, gNe, gLt, gLe, gGt, gGe, gIn, gNotIn, gIs, gIsNot, gMod, gFdiv, gPow, gAppend, gPop, gPopAt, gClear, gReverse, gExtend, gJoin, gSplit, nm_T, tp_T, at_0, at_1, at_2, at_3, at_4, at_5, at_6, at_7, ix_0, ix_1, ix_2, ix_3, ix_4, List.map_cons, List.map_nil, List.length_cons, List.length_nil, List.replicate, List.cons_append, List.nil_append, List.getElem?_cons_zero, List.getElem?_cons_succ, List.set_cons_zero, List.set_cons_succ, Option.some.injEq, exists_eq_left', exists_eq_left, exists_and_left, D.int.injEq, D.str.injEq, D.bl.injEq, D.ref.injEq, D.tup.injEq, D.lst.injEq, MO.lst.injEq, List.cons.injEq, and_true, true_and, if_true, if_false, Bool.false_eq_true, Nat.reduceSub, Nat.reduceAdd, reduceIte, reduceCtorEq, mset_same, mset_mset, Bool.not_true, Bool.not_false, imp_self, implies_true, not_false_eq_true, forall_const, ev0, ev1, ev2, ev3, ev4, ev5, ev6, ev7, ev8, ev9, ev10, ev11, ev12, ev13, ev14, ev15, ev16, ev17, ev18, ev19, ev20, ev21, ev22, ev23, ev24, ev25, ev26, ev27, ev28, ev29, ev30, ev31, ev32, ev33, ev34, ev35, ev36, ev37, ev38, ev39, ev40, ev41, ev42, ev43, ev44, ev45, ev46, ev47, ev48, ev49, ev50, ev51, ev52, ev53, ev54, ev55, ev56, ev57, ev58, ev59, ev60, ev61, ev62, ev63, ev64, ev65, ev66, ev67, ev68, ev69, ev70, ev71, ev72, ev73, ev74, ev75, ev76, ev77, ev78, ev79, ev80, ev81, ev82, ev83, ev84, ev85, ev86, ev87, ev88, ev89, ev90, ev91, ev92, ev93, ev94, ev95, ev96, ev97, ev98, ev99, ev100, ev101, ev102, ev103, ev104, ev105, ev106, ev107, ev108, ev109, ev110, ev111, ev112, ev113, ev114, ev115, ev116, ev117, ev118, ev119, ev120, ev121, ev122, ev123, ev124, ev125, ev126, ev127, ev128, ev129, ev130, ev131, ev132, ev133, ev134, ev135, ev136, ev137, ev138, ev139, ev140, ev141, ev142, ev143, ev144, ev145, ev146, ev147, ev148, ev149, ev150, ev151, ev152, ev153, ev154, ev155, ev156, ev157, ev158, ev159, ev160, ev161, ev162])
local macro_rules | `(tactic| walk_at "rq") => `(tactic| simp only [rSetT, rDct0T, rDct1T, rDc, rLcG, rbClause, rbEmit, rZip2, rZip3, rCallO, gLenD, gLenO, gMaxL, gSortL, gSortLO, rFld, rSetF, rMeth, rMake, rFrzI, rProp, rIsC, rRev, rAllK, rLcK, rLcKO, ew0, ew1, ew2, ew3, ew4, ew5, ew6, rRaise, rTry, xCls, enO, setO, rXf, rIsX, Option.elim_some, Option.elim_none, rSeq, rSet, rAsg, rRet, rRetN, rDrop, rIf, rSkip, rVar, rC, rOp, rUn, rTst, rTru, rNot, rAnd, rOr, rAndV, rOrV, rNotV, rIfE, rChain, rCons, rNil, rTup, rLst, rLstO, rCB, rLM, rSM, rSl, rPart, rNoPart, rAll, rRng1, rRng2, rFor, rCall, rAug, rSetIx, rLenSet, rFmt, rJoined, rJs, rLc, rLcO, rFrz, setAll, rYes, rNever, wipeN, nvs, enD, turnD, gNe, gLt, gLe, gGt, gGe, gIn, gNotIn, gIs, gIsNot, gMod, gFdiv, gPow, gAppend, gPop, gPopAt, gClear, gReverse, gExtend, gJoin, gSplit, nm_T, tp_T, at_0, at_1, at_2, at_3, at_4, at_5, at_6, at_7, ix_0, ix_1, ix_2, ix_3, ix_4, List.map_cons, List.map_nil, List.length_cons, List.length_nil, List.replicate, List.cons_append, List.nil_append, List.getElem?_cons_zero, List.getElem?_cons_succ, List.set_cons_zero, List.set_cons_succ, Option.some.injEq, exists_eq_left', exists_eq_left, exists_and_left, D.int.injEq, D.str.injEq, D.bl.injEq, D.ref.injEq, D.tup.injEq, D.lst.injEq, MO.lst.injEq, List.cons.injEq, and_true, true_and, if_true, if_false, Bool.false_eq_true, Nat.reduceSub, Nat.reduceAdd, reduceIte, reduceCtorEq, mset_same, mset_mset, Bool.not_true, Bool.not_false, imp_self, implies_true, not_false_eq_true, forall_const, ev0, ev1, ev2, ev3, ev4, ev5, ev6, ev7, ev8, ev9, ev10, ev11, ev12, ev13, ev14, ev15, ev16, ev17, ev18, ev19, ev20, ev21, ev22, ev23, ev24, ev25, ev26, ev27, ev28, ev29, ev30, ev31, ev32, ev33, ev34, ev35, ev36, ev37, ev38, ev39, ev40, ev41, ev42, ev43, ev44, ev45, ev46, ev47, ev48, ev49, ev50, ev51, ev52, ev53, ev54, ev55, ev56, ev57, ev58, ev59, ev60, ev61, ev62, ev63, ev64, ev65, ev66, ev67, ev68, ev69, ev70, ev71, ev72, ev73, ev74, ev75, ev76, ev77, ev78, ev79, ev80, ev81, ev82, ev83, ev84, ev85, ev86, ev87, ev88, ev89, ev90, ev91, ev92, ev93, ev94, ev95, ev96, ev97, ev98, ev99, ev100, ev101, ev102, ev103, ev104, ev105, ev106, ev107, ev108, ev109, ev110, ev111, ev112, ev113, ev114, ev115, ev116, ev117, ev118, ev119, ev120, ev121, ev122, ev123, ev124, ev125, ev126, ev127, ev128, ev129, ev130, ev131, ev132, ev133, ev134, ev135, ev136, ev137, ev138, ev139, ev140, ev141, ev142, ev143, ev144, ev145, ev146, ev147, ev148, ev149, ev150, ev151, ev152, ev153, ev154, ev155, ev156, ev157, ev158, ev159, ev160, ev161, ev162, Int.reduceEq, Int.reduceNe, Int.reduceLT, Int.reduceLE, Int.reduceNeg, decide_true, decide_false])
def N__law_step : List Str := ["_law_plain", "_law_stand_here", "_law_unit", "_law_rest", "_law_counts", "_law_parts", "_law_broken", "_law_k", "_law_count", "_law_marks", "_law_kinds_here", "_law_most", "_law_ways", "_law_j", "_law_way"]
def rd__law_step : RS := rSeq (rSet (rC (.int 0)) 3)
  (rSeq (rIf (rTst (rOp gEq (rVar 2) (rC (.str [114])))) (rSet (rCB gMin2 (rCons (rOp gAdd (rOp gIx (rVar 1) (rC (.int 0))) (rC (.int 1))) (rCons (rCall sp__law_top (rCons (rVar 0) (rNil))) (rNil)))) 3) (rSkip))
  (rSeq (rSet (rLstO (rNil)) 4)
  (rSeq (rSet (rLstO (rNil)) 5)
  (rSeq (rSet (rLstO (rNil)) 6)
  (rSeq (rFor (rRng1 (rCons (rCB gLen (rCons (rVar 0) (rNil))) (rNil))) (.nm 7) (rSeq (rAsg (rOp gIx (rVar 0) (rVar 7)) (.tp [10, 11, 12]))
  (rSeq (rSet (rCB gMin2 (rCons (rOp gAdd (rOp gIx (rOp gIx (rVar 1) (rC (.int 1))) (rVar 7)) (rCB gInt (rCons (rOp gIn (rVar 2) (rVar 10)) (rNil)))) (rCons (rOp gAdd (rVar 11) (rC (.int 1))) (rNil)))) 8)
  (rSeq (rSet (rLc (rRng1 (rCons (rCB gLen (rCons (rVar 12) (rNil))) (rNil))) (.nm 13) (rYes) (rCall sp__law_mark (rCons (rOp gIx (rVar 12) (rVar 13)) (rCons (rOp gIx (rOp gIx (rOp gIx (rVar 1) (rC (.int 2))) (rVar 7)) (rVar 13)) (rCons (rVar 2) (rCons (rVar 3) (rNil)))))) [13]) 9)
  (rSeq (rIf (rTst (rCB gAny (rCons (rLc (rRng1 (rCons (rCB gLen (rCons (rVar 12) (rNil))) (rNil))) (.nm 13) (rYes) (rCall sp__law_is_full (rCons (rOp gIx (rVar 12) (rVar 13)) (rCons (rOp gIx (rVar 9) (rVar 13)) (rCons (rVar 3) (rNil))))) [13]) (rNil)))) (rSeq (rSet (rC (.int 0)) 8)
  (rSet (rLc (rAll (rVar 12)) (.nm 14) (rYes) (rC (.int 0)) [14]) 9)) (rSkip))
  (rSeq (rIf (rAnd (rTst (rOp gIn (rVar 2) (rVar 10))) (rTst (rOp gGt (rVar 8) (rVar 11)))) (rDrop (rLM gAppend (rVar 6) (rCons (rVar 7) (rNil)))) (rSkip))
  (rSeq (rDrop (rLM gAppend (rVar 4) (rCons (rVar 8) (rNil))))
  (rDrop (rLM gAppend (rVar 5) (rCons (rCB gTuple (rCons (rVar 9) (rNil))) (rNil)))))))))))
  (rRet (rTup (rCons (rTup (rCons (rVar 3) (rCons (rCB gTuple (rCons (rVar 4) (rNil))) (rCons (rCB gTuple (rCons (rVar 5) (rNil))) (rNil))))) (rCons (rCB gTuple (rCons (rVar 6) (rNil))) (rNil))))))))))

theorem step_rest {R : RS} {Ls : List Lim} {s : Std} {u : Nat} {m : Mem} {q : QD} {xf : XF} (hg : ∀ L ∈ Ls, GoodL L) (h : R (xdD xf) (enD q) [some (.lst (Ls.map triX)), some (stdX s), some (.str [u]), some (.int (restL (capL Ls) s u)), none, none, none, none, none, none, none, none, none, none, none] m) :
    rSeq (rSet (rC (.int 0)) 3) (rSeq (rIf (rTst (rOp gEq (rVar 2) (rC (.str [114])))) (rSet (rCB gMin2 (rCons (rOp gAdd (rOp gIx (rVar 1) (rC (.int 0))) (rC (.int 1))) (rCons (rCall sp__law_top (rCons (rVar 0) (rNil))) (rNil)))) 3) (rSkip)) R) (xdD xf) (enD q) (nvs N__law_step [.lst (Ls.map triX), stdX s, .str [u]]) m := by
  unfold N__law_step
  unfold restL at h
  unfold stdX at h ⊢
  walk_at "rd"
  refine ite2 (fun hu => ?_) fun hu => ?_
  · rw [if_pos (of_decide_eq_true hu)] at h
    refine ⟨Ls, rfl, hg, ?_⟩
    walk_at "rd"
    have e : (if capL Ls < s.r + 1 then capL Ls else s.r + 1) = min (s.r + 1) (capL Ls) := by
      rw [Int.min_def]
      split <;> split <;> omega
    rw [e]
    exact h
  · rw [if_neg (fun z => hu (decide_eq_true z))] at h
    exact h
/-- three lists of one's own -/
def mm3 (m : Mem) (P Q R : Addr) (a b c : List D) : Mem := mset (mset (mset m P (.lst a)) Q (.lst b)) R (.lst c)
theorem mm3_P {m : Mem} {P Q R : Addr} {a b c : List D} (h1 : P ≠ Q) (h2 : P ≠ R) : mm3 m P Q R a b c P = some (.lst a) := by
  unfold mm3
  rw [mset_ne h2, mset_ne h1, mset_same]
theorem mm3_Q {m : Mem} {P Q R : Addr} {a b c : List D} (h3 : Q ≠ R) : mm3 m P Q R a b c Q = some (.lst b) := by
  unfold mm3
  rw [mset_ne h3, mset_same]
theorem mm3_R {m : Mem} {P Q R : Addr} {a b c : List D} : mm3 m P Q R a b c R = some (.lst c) := mset_same
theorem mm3_setP {m : Mem} {P Q R : Addr} {a b c a' : List D} (h1 : P ≠ Q) (h2 : P ≠ R) : mset (mm3 m P Q R a b c) P (.lst a') = mm3 m P Q R a' b c := by
  unfold mm3
  rw [mset_comm (Ne.symm h2), mset_comm (Ne.symm h1), mset_mset]
theorem mm3_setQ {m : Mem} {P Q R : Addr} {a b c a' : List D} (h3 : Q ≠ R) : mset (mm3 m P Q R a b c) Q (.lst a') = mm3 m P Q R a a' c := by
  unfold mm3
  rw [mset_comm (Ne.symm h3), mset_mset]
theorem mm3_setR {m : Mem} {P Q R : Addr} {a b c a' : List D} : mset (mm3 m P Q R a b c) R (.lst a') = mm3 m P Q R a b a' := by
  unfold mm3
  rw [mset_mset]
def flagL (Ls : List Lim) (s : Std) (u : Nat) (r : Int) (i : Nat) : List Nat := (List.range i).filter fun j => ((allL Ls s u r).map (·.2.2))[j]?.getD false
theorem all_len {Ls : List Lim} {s : Std} (hs : StdOk Ls s) (u : Nat) (r : Int) : (allL Ls s u r).length = Ls.length := by
  unfold allL
  have h1 := hs.c
  have h2 := congrArg List.length hs.p
  rw [List.length_map, List.length_map] at h2
  rw [List.length_map, List.length_zip, List.length_zip]
  omega
theorem rng_all {α : Type} (xs : List α) (d : α) (g : α → D) (f : D → Option D) (h : ∀ i : Nat, f (.int (0 + (i : Int))) = some (g (xs[i]?.getD d))) : List.filterMap f (rngD 0 xs.length) = xs.map g := by
  unfold rngD
  rw [List.filterMap_map]
  have e : (f ∘ fun i : Nat => D.int (0 + (i : Int))) = fun i => some (g (xs[i]?.getD d)) := by
    funext i
    exact h i
  rw [e, List.filterMap_eq_map']
  apply List.ext_getElem
  · simp
  · intro i h1 h2
    have h3 : i < xs.length := by simpa using h2
    simp [List.getElem?_eq_getElem h3]
def numF (xs : List Int) : D → Option D
  | .int i => some (.int ((xs[i.toNat]?).getD 0))
  | _ => none
theorem num_at (xs : List Int) (i : Nat) : numF xs (.int (0 + (i : Int))) = some (.int ((xs[i]?).getD 0)) := by
  show some (D.int ((xs[((0 : Int) + i).toNat]?).getD 0)) = _
  rw [show ((0 : Int) + i).toNat = i by omega]
def blF (xs : List Bool) : D → Option D
  | .int i => some (.bl ((xs[i.toNat]?).getD false))
  | _ => none
theorem bl_at (xs : List Bool) (i : Nat) : blF xs (.int (0 + (i : Int))) = some (.bl ((xs[i]?).getD false)) := by
  show some (D.bl ((xs[((0 : Int) + i).toNat]?).getD false)) = _
  rw [show ((0 : Int) + i).toNat = i by omega]
theorem put2 {kk : Mem → Prop} {m : Mem} {P1 P2 P3 : Addr} {AA BB CC : List D} {d e : D} (n21 : P1 ≠ P2) (n31 : P1 ≠ P3) (n32 : P2 ≠ P3) (ha : AA.length < sizeLine) (hb : BB.length < sizeLine) (h : kk (mm3 m P1 P2 P3 (AA ++ [d]) (BB ++ [e]) CC)) :
    (∃ ds, moLst (mm3 m P1 P2 P3 AA BB CC P1) = some ds) ∧ ∃ x, mm3 m P1 P2 P3 AA BB CC P1 = some (MO.lst x) ∧ x.length < sizeLine ∧ (∃ ds, moLst (mset (mm3 m P1 P2 P3 AA BB CC) P1 (MO.lst (x ++ [d])) P2) = some ds) ∧ ∃ y, mset (mm3 m P1 P2 P3 AA BB CC) P1 (MO.lst (x ++ [d])) P2 = some (MO.lst y) ∧ y.length < sizeLine ∧
      kk (mset (mset (mm3 m P1 P2 P3 AA BB CC) P1 (MO.lst (x ++ [d]))) P2 (MO.lst (y ++ [e]))) := by
  refine ⟨⟨_, by rw [mm3_P n21 n31]; rfl⟩, AA, mm3_P n21 n31, ha, ⟨_, by rw [mm3_setP n21 n31, mm3_Q n32]; rfl⟩, BB, by rw [mm3_setP n21 n31, mm3_Q n32], hb, ?_⟩
  rw [mm3_setP n21 n31, mm3_setQ n32]
  exact h
theorem rp__law_step : ∀ ds m q xf, sp__law_step ds m q xf → rd__law_step (xdD xf) (enD q) (nvs N__law_step ds) m := by
  rintro ds m q xf ⟨Ls, s, u, rfl, hg, hl, hs, hu, k⟩
  have hz : sizeLine = 16777216 := sizeLine_eq
  unfold rd__law_step
  refine step_rest hg ?_
  generalize hr : restL (capL Ls) s u = rr
  unfold stdX
  walk_at "rd"
  refine ⟨by omega, fun P1 h1 => ⟨by omega, fun P2 h2 => ⟨by omega, fun P3 h3 => ?_⟩⟩⟩
  have n21 : P1 ≠ P2 := fun z => by
    rw [← z, mset_same] at h2
    cases h2
  have n32 : P2 ≠ P3 := fun z => by
    rw [← z, mset_same] at h3
    cases h3
  have n31 : P1 ≠ P3 := fun z => by
    rw [← z, mset_ne n21, mset_same] at h3
    cases h3
  have hP2 : m P2 = none := by rwa [mset_ne (Ne.symm n21)] at h2
  have hP3 : m P3 = none := by rwa [mset_ne (Ne.symm n32), mset_ne (Ne.symm n31)] at h3
  have hal := all_len hs u rr
  rw [List.length_map]
  refine ⟨by omega, by omega, ?_⟩
  refine for_step (fun xs n m' => ∃ i y7 y8 y9 y10 y11 y12, i ≤ Ls.length ∧ xs = rngD (i : Int) (Ls.length - i) ∧ n = [some (.lst (Ls.map triX)), some (D.tup [D.int s.r, tupI s.c, D.tup (List.map tupI s.p)]), some (.str [u]), some (.int rr), some (.ref P1), some (.ref P2), some (.ref P3), y7, y8, y9, y10, y11, y12, none, none] ∧ m' = mm3 m P1 P2 P3 ((((allL Ls s u rr).take i).map (·.1)).map D.int) ((((allL Ls s u rr).take i).map (·.2.1)).map tupI) ((flagL Ls s u rr i).map fun j : Nat => D.int (j : Int))) ?_ ?_ _ _ _ ⟨0, _, _, _, _, _, _, Nat.zero_le _, rfl, rfl, rfl⟩
  · rintro n m' ⟨i, y7, y8, y9, y10, y11, y12, hi, ex, rfl, rfl⟩
    have ei : i = Ls.length := by
      have := congrArg List.length ex
      rw [rngD_length, List.length_nil] at this
      omega
    subst ei
    rw [← hal, List.take_length]
    walk_at "rd"
    refine ⟨_, by rw [mm3_P n21 n31]; rfl, _, by rw [mm3_Q n32]; rfl, by omega, _, by rw [mm3_R]; rfl, by omega, rt_sub ((((Sub.refl m).add h1).add hP2).add hP3) ?_⟩
    unfold stepX goalL brokL brokX stdX at k
    rw [hr] at k
    exact k
  · rintro x xs n m' ⟨i, y7, y8, y9, y10, y11, y12, hi, ex, rfl, rfl⟩ kk hk
    have hlt : i < Ls.length := by
      have := congrArg List.length ex
      rw [rngD_length, List.length_cons] at this
      omega
    rw [show Ls.length - i = (Ls.length - (i + 1)) + 1 by omega, rngD_succ] at ex
    injection ex with e1 e2
    subst e1 e2
    walk_at "rd"
    have hcl : i < s.c.length := by rw [hs.c]; exact hlt
    have hpl : i < s.p.length := by
      have := congrArg List.length hs.p
      rw [List.length_map, List.length_map] at this
      omega
    have gL : GoodL Ls[i] := hg _ (List.getElem_mem hlt)
    have hkl : s.p[i].length = Ls[i].ws.length := by
      have h : (s.p.map List.length)[i]? = (Ls.map fun L => L.ws.length)[i]? := by rw [hs.p]
      rw [List.getElem?_map, List.getElem?_map, List.getElem?_eq_getElem hpl, List.getElem?_eq_getElem hlt] at h
      simpa using h
    have hai : i < (allL Ls s u rr).length := by rw [hal]; exact hlt
    have eall : (allL Ls s u rr)[i] = cntL Ls[i] s.c[i] s.p[i] u rr := by
      have e : (allL Ls s u rr)[i]? = some (cntL Ls[i] s.c[i] s.p[i] u rr) := by
        unfold allL
        rw [List.getElem?_map, List.getElem?_eq_getElem (l := (Ls.zip s.c).zip s.p) (by rw [List.length_zip, List.length_zip]; omega)]
        simp
      rw [List.getElem?_eq_getElem hai] at e
      exact Option.some.inj e
    have eL : atI (Ls.map triX) (i : Int) = some (triX Ls[i]) := by
      have := atI_nat (xs := Ls.map triX) (i := i) (by rw [List.length_map]; exact hlt)
      rw [Int.zero_add] at this
      rw [this]
      simp
    have eC : atI (s.c.map D.int) (i : Int) = some (D.int s.c[i]) := by
      have := atI_nat (xs := s.c.map D.int) (i := i) (by rw [List.length_map]; exact hcl)
      rw [Int.zero_add] at this
      rw [this]
      simp
    have eP : atI (s.p.map tupI) (i : Int) = some (tupI s.p[i]) := by
      have := atI_nat (xs := s.p.map tupI) (i := i) (by rw [List.length_map]; exact hpl)
      rw [Int.zero_add] at this
      rw [this]
      simp
    generalize eLi : Ls[i] = L at *
    generalize eci : s.c[i] = c at *
    generalize eki : s.p[i] = ks at *
    have hk2 : ∀ y8 y9 (c1 : Int) (k1 : List Int) (b : Bool), cntL L c ks u rr = (c1, k1, b) → kk [some (.lst (Ls.map triX)), some (D.tup [D.int s.r, tupI s.c, D.tup (List.map tupI s.p)]), some (.str [u]), some (.int rr), some (.ref P1), some (.ref P2), some (.ref P3), some (.int i), y8, y9, some (.str L.cs), some (.int L.b), some (.lst (waysX L.ws)), none, none] (mm3 m P1 P2 P3 ((((allL Ls s u rr).take i).map (·.1)).map D.int ++ [.int c1]) ((((allL Ls s u rr).take i).map (·.2.1)).map tupI ++ [tupI k1]) (((flagL Ls s u rr i).map fun j : Nat => D.int (j : Int)) ++ if b = true then [.int i] else [])) := fun y8 y9 c1 k1 b he => by
      refine hk _ _ ⟨i + 1, _, _, _, _, _, _, hlt, by congr 1, rfl, ?_⟩
      have et : (allL Ls s u rr).take (i + 1) = (allL Ls s u rr).take i ++ [(c1, k1, b)] := by
        rw [List.take_succ_eq_append_getElem hai, eall, he]
      have ef : flagL Ls s u rr (i + 1) = flagL Ls s u rr i ++ if b = true then [i] else [] := by
        unfold flagL
        rw [List.range_succ, List.filter_append]
        congr 1
        rw [List.filter_cons, List.filter_nil, List.getElem?_map, List.getElem?_eq_getElem hai, eall, he]
        rfl
      rw [et, ef, List.map_append, List.map_append, List.map_append, List.map_append, List.map_append]
      cases b <;> rfl
    generalize eAA : (((allL Ls s u rr).take i).map (·.1)).map D.int = AA at *
    generalize eBB : (((allL Ls s u rr).take i).map (·.2.1)).map tupI = BB at *
    generalize eCC : ((flagL Ls s u rr i).map fun j : Nat => D.int (j : Int)) = CC at *
    refine ⟨_, eL, ?_⟩
    unfold triX triD tupI
    walk_at "rd"
    refine ⟨_, eC, ?_⟩
    walk_at "rd"
    have hwl : (waysX L.ws).length = L.ws.length := List.length_map ..
    have hw2 := gL.len.2
    have hml : (marksL L ks u rr).length = L.ws.length := by
      unfold marksL
      rw [List.length_map, List.length_zip]
      omega
    have em1 : (if L.b + 1 < c + (if decide (u ∈ L.cs) = true then 1 else 0) then L.b + 1 else c + if decide (u ∈ L.cs) = true then 1 else 0) = min (c + if u ∈ L.cs then 1 else 0) (L.b + 1) := by
      simp only [decide_eq_true_eq]
      rw [Int.min_def]
      split <;> split <;> omega
    rw [em1]
    generalize ec1 : min (c + if u ∈ L.cs then 1 else 0) (L.b + 1) = c1
    refine ⟨by omega, by omega, ?_⟩
    have eW : ∀ j (hj : j < L.ws.length), atI (waysX L.ws) (0 + (j : Int)) = some (wayX L.ws[j]) := fun j hj => by
      rw [atI_nat (xs := waysX L.ws) (i := j) (by rw [hwl]; exact hj)]
      unfold waysX
      simp
    have eK : ∀ j (hj : j < ks.length), atI (ks.map D.int) (0 + (j : Int)) = some (.int ks[j]) := fun j hj => by
      rw [atI_nat (xs := ks.map D.int) (i := j) (by rw [List.length_map]; exact hj)]
      simp
    refine comp_go (numF (marksL L ks u rr)) (by rw [rngD_length]; omega) (fun P hP x hx acc hla kk hk => ?_) fun P hP => ?_
    · obtain ⟨j, hj, rfl⟩ := mem_rngD hx
      have hj : j < L.ws.length := by omega
      have hjk : j < ks.length := by omega
      walk_at "rd"
      refine ⟨_, eW j hj, _, eP, ?_⟩
      unfold tupI
      walk_at "rd"
      refine ⟨_, eK j hjk, _, _, _, _, rfl, (gL.way _ (List.getElem_mem hj)).1, ?_⟩
      rw [num_at] at hk
      have e : (marksL L ks u rr)[j]?.getD 0 = markV L.ws[j] ks[j] u rr := by
        unfold marksL
        rw [List.getElem?_map, List.getElem?_eq_getElem (l := L.ws.zip ks) (by rw [List.length_zip]; omega)]
        simp
      rw [e] at hk
      exact ⟨_, mset_same, hla, by rw [mset_mset]; exact hk⟩
    rw [mdel_mset hP]
    have en : ((waysX L.ws).length : Int).toNat = (marksL L ks u rr).length := by omega
    rw [show List.filterMap (numF (marksL L ks u rr)) (rngD 0 ((waysX L.ws).length : Int).toNat) = (marksL L ks u rr).map D.int by rw [en]; exact rng_all _ 0 D.int _ (num_at _)]
    generalize emk : marksL L ks u rr = k1 at *
    refine ⟨_, mset_same, by omega, by omega, ?_⟩
    refine comp_go (blF ((L.ws.zip k1).map fun p => fullV p.1 p.2 rr)) (by rw [rngD_length]; omega) (fun P hP x hx acc hla kk hk => ?_) fun P hP => ?_
    · obtain ⟨j, hj, rfl⟩ := mem_rngD hx
      have hj : j < L.ws.length := by omega
      have hjk : j < k1.length := by omega
      walk_at "rd"
      have eK1 : atI (k1.map D.int) (0 + (j : Int)) = some (.int k1[j]) := by
        rw [atI_nat (xs := k1.map D.int) (i := j) (by rw [List.length_map]; exact hjk)]
        simp
      have gw := gL.way _ (List.getElem_mem hj)
      refine ⟨_, eW j hj, _, eK1, _, _, _, rfl, gw.1, gw.2.1, ?_⟩
      rw [bl_at] at hk
      have e : ((L.ws.zip k1).map fun p => fullV p.1 p.2 rr)[j]?.getD false = fullV L.ws[j] k1[j] rr := by
        rw [List.getElem?_map, List.getElem?_eq_getElem (l := L.ws.zip k1) (by rw [List.length_zip]; omega)]
        simp
      rw [e] at hk
      exact ⟨_, mset_same, hla, by rw [mset_mset]; exact hk⟩
    rw [mdel_mset hP]
    have lA : AA.length < sizeLine := by
      rw [← eAA, List.length_map, List.length_map, List.length_take]
      omega
    have lB : BB.length < sizeLine := by
      rw [← eBB, List.length_map, List.length_map, List.length_take]
      omega
    have lC : CC.length < sizeLine := by
      rw [← eCC, List.length_map]
      have := List.length_filter_le (fun j => ((allL Ls s u rr).map (·.2.2))[j]?.getD false) (List.range i)
      rw [List.length_range] at this
      have e : (flagL Ls s u rr i).length ≤ i := this
      omega
    refine ⟨_, mset_same, (L.ws.zip k1).map (fun p => fullV p.1 p.2 rr), ?_, ?_⟩
    · rw [show ((waysX L.ws).length : Int).toNat = ((L.ws.zip k1).map (fun p => fullV p.1 p.2 rr)).length by rw [List.length_map, List.length_zip]; omega, rng_all _ false D.bl _ (bl_at _)]
      exact bls_map _
    have efull : ((L.ws.zip k1).map (fun p => fullV p.1 p.2 rr)).any id = fullL L k1 rr := by
      unfold fullL
      rw [List.any_map]
      rfl
    rw [efull]
    refine ite2 (fun hf => ?_) fun hf => ?_
    · have ek : cntL L c ks u rr = (0, L.ws.map (fun _ => 0), false) := by
        unfold cntL
        simp only []
        rw [emk, if_pos hf, decide_eq_false (show ¬ (0 > L.b) by have := gL.lo; omega), Bool.and_false]
      refine comp_go (fun _ => some (.int 0)) (by omega) (fun P hP x hx acc hla kk hk => ?_) fun P hP => ?_
      · walk_at "rd"
        exact ⟨hla, hk⟩
      rw [mdel_mset hP]
      refine ⟨_, mset_same, ?_⟩
      have ez : List.filterMap (fun _ => some (D.int 0)) (waysX L.ws) = (L.ws.map fun _ => (0 : Int)).map D.int := by
        rw [fm_some]
        unfold waysX
        rw [List.map_map, List.map_map]
        rfl
      rw [ez]
      have fin := hk2 (some (.int 0)) (some (.lst ((L.ws.map fun _ => (0 : Int)).map D.int))) 0 _ false ek
      rw [if_neg (by decide), List.append_nil] at fin
      refine ite2 (fun _ => ?_) fun _ => put2 n21 n31 n32 lA lB fin
      refine ite2 (fun hb => absurd (of_decide_eq_true hb) (by have := gL.lo; omega)) fun _ => put2 n21 n31 n32 lA lB fin
    · have ek : cntL L c ks u rr = (c1, k1, decide (u ∈ L.cs) && decide (c1 > L.b)) := by
        unfold cntL
        simp only []
        rw [emk, ec1, if_neg hf]
      have fin := hk2 (some (.int c1)) (some (.lst (k1.map D.int))) c1 k1 _ ek
      refine ite2 (fun hu => ?_) fun hu => ?_
      · refine ite2 (fun hb => ?_) fun hb => ?_
        · have hb' : decide (c1 > L.b) = true := hb
          rw [hu, hb', Bool.and_true, if_pos rfl] at fin
          refine ⟨⟨_, by rw [mm3_R]; rfl⟩, CC, mm3_R, lC, ?_⟩
          rw [mm3_setR]
          exact put2 n21 n31 n32 lA lB fin
        · have hb' : decide (c1 > L.b) = false := Bool.eq_false_iff.mpr hb
          rw [hb', Bool.and_false, if_neg (by decide), List.append_nil] at fin
          exact put2 n21 n31 n32 lA lB fin
      · rw [Bool.eq_false_iff.mpr hu, Bool.false_and, if_neg (by decide), List.append_nil] at fin
        exact put2 n21 n31 n32 lA lB fin
end DL

namespace DL
open PySem PySem.Spec PyProof.Rows L2
/-! the law's own stands -/
local macro_rules | `(tactic| walk_at "rd") => `(tactic| simp only [rSetT, rDct0T, rDct1T, rDc, rLcG, rbClause, rbEmit, rZip2, rZip3, rCallO, gLenD, gLenO, gMaxL, gSortL, gSortLO, rFld, rSetF, rMeth, rMake, rFrzI, rProp, rIsC, rRev, rAllK, rLcK, rLcKO, ew0, ew1, ew2, ew3, ew4, ew5, ew6, rRaise, rTry, xCls, enO, setO, rXf, rIsX, Option.elim_some, Option.elim_none, rSeq, rSet, rAsg, rRet, rRetN, rDrop, rIf, rSkip, rVar, rC, rOp, rUn, rTst, rTru, rNot, rAnd, rOr, rAndV, rOrV, rNotV, rIfE, rChain, rCons, rNil, rTup, rLst, rLstO, rCB, rLM, rSM, rSl, rPart, rNoPart, rAll, rRng1, rRng2, rFor, rCall, rAug, rSetIx, rLenSet, rFmt, rJoined, rJs, rLc, rLcO, rFrz, setAll, rYes, rNever, wipeN, nvs, enD, turnD, gNe, gLt, gLe, gGt, gGe, gIn, gNotIn, gIs, gIsNot, gMod, gFdiv, gPow, gAppend, gPop, gPopAt, gClear, gReverse, gExtend, gJoin, gSplit, nm_T, tp_T, at_0, at_1, at_2, at_3, at_4, at_5, at_6, at_7, ix_0, ix_1, ix_2, ix_3, ix_4, List.map_cons, List.map_nil, List.length_cons, List.length_nil, List.replicate, List.cons_append, List.nil_append, List.getElem?_cons_zero, List.getElem?_cons_succ, List.set_cons_zero, List.set_cons_succ, Option.some.injEq, exists_eq_left', exists_eq_left, exists_and_left, D.int.injEq, D.str.injEq, D.bl.injEq, D.ref.injEq, D.tup.injEq, D.lst.injEq, MO.lst.injEq, List.cons.injEq, and_true, true_and, if_true, if_false, Bool.false_eq_true, Nat.reduceSub, Nat.reduceAdd, reduceIte, reduceCtorEq, mset_same, mset_mset, Bool.not_true, Bool.not_false, imp_self, implies_true, not_false_eq_true, forall_const, ev0, ev1, ev2, ev3, ev4, ev5, ev6, ev7, ev8, ev9, ev10, ev11, ev12, ev13, ev14, ev15, ev16, ev17, ev18, ev19, ev20, ev21, ev22, ev23, ev24, ev25, ev26, ev27, ev28, ev29, ev30, ev31, ev32, ev33, ev34, ev35, ev36, ev37, ev38, ev39, ev40, ev41, ev42, ev43, ev44, ev45, ev46, ev47, ev48, ev49, ev50, ev51, ev52, ev53, ev54, ev55, ev56, ev57, ev58, ev59, ev60, ev61, ev62, ev63, ev64, ev65, ev66, ev67, ev68, ev69, ev70, ev71, ev72, ev73, ev74, ev75, ev76, ev77, ev78, ev79, ev80, ev81, ev82, ev83, ev84, ev85, ev86, ev87, ev88, ev89, ev90, ev91, ev92, ev93, ev94, ev95, ev96, ev97, ev98, ev99, ev100, ev101, ev102, ev103, ev104, ev105, ev106, ev107, ev108, ev109, ev110, ev111, ev112, ev113, ev114, ev115, ev116, ev117, ev118, ev119, ev120, ev121, ev122, ev123, ev124, ev125, ev126, ev127, ev128, ev129, ev130, ev131, ev132, ev133, ev134, ev135, ev136, ev137, ev138, ev139, ev140, ev141, ev142, ev143, ev144, ev145, ev146, ev147, ev148, ev149, ev150, ev151, ev152, ev153, ev154, ev155, ev156, ev157, ev158, ev159, ev160, ev161, ev162])
local macro_rules | `(tactic| walk_at "rq") => `(tactic| simp only [rSetT, rDct0T, rDct1T, rDc, rLcG, rbClause, rbEmit, rZip2, rZip3, rCallO, gLenD, gLenO, gMaxL, gSortL, gSortLO, rFld, rSetF, rMeth, rMake, rFrzI, rProp, rIsC, rRev, rAllK, rLcK, rLcKO, ew0, ew1, ew2, ew3, ew4, ew5, ew6, rRaise, rTry, xCls, enO, setO, rXf, rIsX, Option.elim_some, Option.elim_none, rSeq, rSet, rAsg, rRet, rRetN, rDrop, rIf, rSkip, rVar, rC, rOp, rUn, rTst, rTru, rNot, rAnd, rOr, rAndV, rOrV, rNotV, rIfE, rChain, rCons, rNil, rTup, rLst, rLstO, rCB, rLM, rSM, rSl, rPart, rNoPart, rAll, rRng1, rRng2, rFor, rCall, rAug, rSetIx, rLenSet, rFmt, rJoined, rJs, rLc, rLcO, rFrz, setAll, rYes, rNever, wipeN, nvs, enD, turnD, gNe, gLt, gLe, gGt, gGe, gIn, gNotIn, gIs, gIsNot, gMod, gFdiv, gPow, gAppend, gPop, gPopAt, gClear, gReverse, gExtend, gJoin, gSplit, nm_T, tp_T, at_0, at_1, at_2, at_3, at_4, at_5, at_6, at_7, ix_0, ix_1, ix_2, ix_3, ix_4, List.map_cons, List.map_nil, List.length_cons, List.length_nil, List.replicate, List.cons_append, List.nil_append, List.getElem?_cons_zero, List.getElem?_cons_succ, List.set_cons_zero, List.set_cons_succ, Option.some.injEq, exists_eq_left', exists_eq_left, exists_and_left, D.int.injEq, D.str.injEq, D.bl.injEq, D.ref.injEq, D.tup.injEq, D.lst.injEq, MO.lst.injEq, List.cons.injEq, and_true, true_and, if_true, if_false, Bool.false_eq_true, Nat.reduceSub, Nat.reduceAdd, reduceIte, reduceCtorEq, mset_same, mset_mset, Bool.not_true, Bool.not_false, imp_self, implies_true, not_false_eq_true, forall_const, ev0, ev1, ev2, ev3, ev4, ev5, ev6, ev7, ev8, ev9, ev10, ev11, ev12, ev13, ev14, ev15, ev16, ev17, ev18, ev19, ev20, ev21, ev22, ev23, ev24, ev25, ev26, ev27, ev28, ev29, ev30, ev31, ev32, ev33, ev34, ev35, ev36, ev37, ev38, ev39, ev40, ev41, ev42, ev43, ev44, ev45, ev46, ev47, ev48, ev49, ev50, ev51, ev52, ev53, ev54, ev55, ev56, ev57, ev58, ev59, ev60, ev61, ev62, ev63, ev64, ev65, ev66, ev67, ev68, ev69, ev70, ev71, ev72, ev73, ev74, ev75, ev76, ev77, ev78, ev79, ev80, ev81, ev82, ev83, ev84, ev85, ev86, ev87, ev88, ev89, ev90, ev91, ev92, ev93, ev94, ev95, ev96, ev97, ev98, ev99, ev100, ev101, ev102, ev103, ev104, ev105, ev106, ev107, ev108, ev109, ev110, ev111, ev112, ev113, ev114, ev115, ev116, ev117, ev118, ev119, ev120, ev121, ev122, ev123, ev124, ev125, ev126, ev127, ev128, ev129, ev130, ev131, ev132, ev133, ev134, ev135, ev136, ev137, ev138, ev139, ev140, ev141, ev142, ev143, ev144, ev145, ev146, ev147, ev148, ev149, ev150, ev151, ev152, ev153, ev154, ev155, ev156, ev157, ev158, ev159, ev160, ev161, ev162, Int.reduceEq, Int.reduceNe, Int.reduceLT, Int.reduceLE, Int.reduceNeg, decide_true, decide_false])
def N__law_stands : List Str := ["_law_plain", "_law_most", "_law_found", "_law_line", "_law_k", "_law_unit", "_law_goal"]
def rd__law_stands : RS := rSeq (rSet (rDct1T (rCall sp__law_fresh (rCons (rVar 0) (rNil))) (rC (.bl true))) 2)
  (rSeq (rSet (rLstO (rCons (rCall sp__law_fresh (rCons (rVar 0) (rNil))) (rNil))) 3)
  (rSeq (rSet (rC (.int 0)) 4)
  (rSeq (rWhile (rAnd (rTst (rOp gLt (rVar 4) (rCB gLen (rCons (rVar 3) (rNil))))) (rTst (rOp gLe (rCB gLen (rCons (rVar 3) (rNil))) (rVar 1)))) (rSeq (rFor (rAll (rC (.str [100, 119, 97, 114]))) (.nm 5) (rSeq (rSet (rOp gIx (rCall sp__law_step (rCons (rVar 0) (rCons (rOp gIx (rVar 3) (rVar 4)) (rCons (rVar 5) (rNil))))) (rC (.int 0))) 6)
  (rIf (rTst (rOp (gInT fun b => !b) (rVar 6) (rVar 2))) (rSeq (rSetT (rVar 2) (rVar 6) (rC (.bl true)))
  (rDrop (rLM gAppend (rVar 3) (rCons (rVar 6) (rNil))))) (rSkip))))
  (rSet (rOp gAdd (rVar 4) (rC (.int 1))) 4)))
  (rRet (rCB gSortL (rCons (rVar 3) (rNil)))))))

theorem getT_in (g : Std → D) {s : Std} : ∀ {vis : List Std}, s ∈ vis → getT (vis.map fun s => (stdX s, g s)) (nkS s) = some (g s)
  | v :: vis, h => by
    unfold getT
    rw [List.map_cons]
    by_cases e : v = s
    · subst e
      rw [List.find?_cons_of_pos (by simp [nkS_of])]
      rfl
    · rw [List.find?_cons_of_neg (by simp only [nkS_of, decide_eq_true_eq]; exact fun z => e (nkS_inj (Option.some.inj z)))]
      rcases List.mem_cons.mp h with z | z
      · exact absurd z.symm e
      · exact getT_in g z
theorem getT_out (g : Std → D) {s : Std} : ∀ {vis : List Std}, s ∉ vis → getT (vis.map fun s => (stdX s, g s)) (nkS s) = none
  | [], _ => rfl
  | v :: vis, h => by
    unfold getT
    rw [List.map_cons, List.find?_cons_of_neg (by simp only [nkS_of, decide_eq_true_eq]; exact fun z => h (by rw [nkS_inj (Option.some.inj z)]; exact List.mem_cons_self))]
    exact getT_out g fun z => h (List.mem_cons_of_mem _ z)
theorem fls_ints (k : Nat) : ∀ is : List Int, fls k (is.map D.int) = true
  | [] => rfl
  | i :: is => by
    rw [List.map_cons, fls, fls_ints k is]
    simp [fl]
theorem fl_tupI (k : Nat) (is : List Int) : fl (k + 1) (tupI is) = true := by
  unfold tupI
  rw [fl]
  exact fls_ints k is
theorem fls_tups (k : Nat) : ∀ ps : List (List Int), fls (k + 1) (ps.map tupI) = true
  | [] => rfl
  | p :: ps => by
    rw [List.map_cons, fls, fls_tups k ps, fl_tupI]
    rfl
theorem fl_std (k : Nat) (s : Std) : fl (k + 3) (stdX s) = true := by
  unfold stdX
  rw [fl, fls, fls, fls, fls]
  rw [show fl (k + 2) (tupI s.c) = true from fl_tupI (k + 1) s.c, show fl (k + 2) (.tup (s.p.map tupI)) = true by rw [fl]; exact fls_tups k s.p]
  simp [fl]
theorem fls_std (k : Nat) (l : List Std) : fls (k + 3) (l.map stdX) = true := fls_iff.mpr fun d hd => by
  obtain ⟨s, _, rfl⟩ := List.mem_map.mp hd
  exact fl_std k s
theorem toPs_ints (is : List Int) : toPs (is.map D.int) = is.map .int := by
  rw [toPs_map, List.map_map]
  rfl
theorem alike_tups : ∀ ps qs : List (List Int), PySem.W.alikeAll (ps.map fun p => .tuple (p.map .int)) (qs.map fun p => .tuple (p.map .int)) = true
  | [], _ => by simp [PySem.W.alikeAll]
  | _ :: _, [] => by simp [PySem.W.alikeAll]
  | p :: ps, q :: qs => by
    rw [List.map_cons, List.map_cons, PySem.W.alikeAll, alike_tups ps qs]
    simp [PySem.W.alike, PySem.W.alike_ints]
theorem toP_std (s : Std) : toP (stdX s) = .tuple [.int s.r, .tuple (s.c.map .int), .tuple (s.p.map fun p => .tuple (p.map .int))] := by
  unfold stdX tupI
  rw [toP, toPs, toPs, toPs, toPs, toP, toP, toP, toPs_ints, toPs_map, List.map_map]
  have e : (toP ∘ fun is => D.tup (List.map D.int is)) = fun p : List Int => PyData.tuple (p.map .int) := by
    funext p
    show toP (.tup _) = _
    rw [toP, toPs_ints]
  rw [e]
theorem std_alike (a b : Std) : PySem.W.alike (toP (stdX a)) (toP (stdX b)) = true := by
  rw [toP_std, toP_std]
  simp [PySem.W.alike, PySem.W.alikeAll, PySem.W.alike_ints, alike_tups]
theorem std_sortable (l : List Std) : PySem.W.AllAlike ((l.map stdX).map toP) ∧ PySem.W.Sortable ((l.map stdX).map toP) := by
  rw [List.map_map]
  exact ⟨PySem.W.AllAlike.of fun a b => std_alike a b, PySem.W.Sortable.tuples fun s => ⟨_, _, toP_std s⟩⟩
/-- what the law's own search has found -/
structure Found (Ls : List Lim) (most : Nat) (line : List Std) : Prop where
  nd : line.Nodup
  ok : ∀ s ∈ line, StdOk Ls s
  fresh : freshL Ls ∈ line
  len : line.length ≤ most + 4
  least : ∀ S, Closed Ls S → ∀ s ∈ line, s ∈ S
def sp__law_stands : SpD := fun ds m q _ => ∃ Ls most, ds = [.lst (Ls.map triX), .int ((most : Nat) : Int)] ∧ (∀ L ∈ Ls, GoodL L) ∧ Ls.length ≤ 4 ∧ 1 ≤ most ∧ most ≤ 1000 ∧ ∀ line, Found Ls most line → (line.length ≤ most → Closed Ls line) → q (.lst (sortD (line.map stdX))) m
theorem rl__law_stands : ∀ ds m q xf, sp__law_stands ds m q xf → ds.length = ["_law_plain", "_law_most"].length := fun ds m q xf ⟨_, _, e, _⟩ => by rw [e]; rfl
theorem rp__law_stands : ∀ ds m q xf, sp__law_stands ds m q xf → rd__law_stands (xdD xf) (enD q) (nvs N__law_stands ds) m := by
  rintro ds m q xf ⟨Ls, most, rfl, hg, hl, hm1, hm2, k⟩
  have hz : sizeLine = 16777216 := sizeLine_eq
  unfold rd__law_stands N__law_stands
  walk_at "rd"
  intro F hF
  refine ⟨Ls, rfl, hg, hl, ?_⟩
  refine ⟨_, rfl, _, nkS_of _, depth_S _, mset_same, Ls, rfl, hg, hl, ?_⟩
  refine ⟨by omega, fun V hV => ?_⟩
  rw [mset_mset] at hV ⊢
  have nFV : F ≠ V := fun z => by
    rw [← z, mset_same] at hV
    cases hV
  have hVm : m V = none := by rwa [mset_ne (Ne.symm nFV)] at hV
  have mF : ∀ (a : List (D × D)) (o : MO), mset (mset m F (.dct true a)) V o F = some (.dct true a) := fun a o => by rw [mset_ne nFV, mset_same]
  have setF : ∀ (a b : List (D × D)) (o : MO), mset (mset (mset m F (.dct true a)) V o) F (.dct true b) = mset (mset m F (.dct true b)) V o := fun a b o => by
    rw [mset_comm nFV, mset_mset]
    exact mset_comm (Ne.symm nFV)
  refine ⟨fun kz n m' => ∃ line i y5 y6, n = [some (.lst (Ls.map triX)), some (.int (most : Int)), some (.ref F), some (.ref V), some (.int ((i : Nat) : Int)), y5, y6] ∧ m' = mset (mset m F (.dct true (line.map fun s => (stdX s, D.bl true)))) V (.lst (line.map stdX)) ∧ Found Ls most line ∧ i ≤ line.length ∧ (∀ j (h : j < line.length), j < i → ∀ u ∈ letC, goalL Ls (capL Ls) line[j] u ∈ line) ∧ kz = most + 5 - i,
    ⟨_, [freshL Ls], 0, _, _, rfl, rfl, ⟨by simp, by simpa using std_fresh Ls, by simp, by simp, fun S hS s hs => by
      have : s = freshL Ls := by simpa using hs
      rw [this]
      exact hS.fresh⟩, by simp, fun j h hj => by omega, rfl⟩, ?_⟩
  rintro kz n m' ⟨line, i, y5, y6, rfl, rfl, hf, hi, hdone, rfl⟩
  have hln : (line.map stdX).length = line.length := List.length_map ..
  walk_at "rd"
  rw [hln]
  have fin : (line.length ≤ most → i = line.length) → fls 50 (line.map stdX) = true ∧ PySem.W.AllAlike ((line.map stdX).map toP) ∧ PySem.W.Sortable ((line.map stdX).map toP) ∧ line.length ≤ sizeLine ∧ rtD q (.lst (sortD (line.map stdX))) (mset (mset m F (.dct true (line.map fun s => (stdX s, D.bl true)))) V (.lst (line.map stdX))) := fun hc => by
    refine ⟨fls_std 47 line, (std_sortable line).1, (std_sortable line).2, by have := hf.len; omega, rt_sub (((Sub.refl m).add hF).add hVm) (k line hf fun hle => ?_)⟩
    have e := hc hle
    refine ⟨hf.fresh, fun s hs u hu => ?_⟩
    obtain ⟨j, hj, rfl⟩ := List.mem_iff_getElem.mp hs
    exact hdone j hj (by omega) u hu
  refine ite2 (fun h1 => ite2 (fun h2 => ?_) fun h2 => fin fun h => absurd (decide_eq_true (by omega)) h2) fun h1 => fin fun h => by have := mt decide_eq_true h1; omega
  have h1 : i < line.length := by have := of_decide_eq_true h1; omega
  have h2 : line.length ≤ most := by have := of_decide_eq_true h2; omega
  refine ⟨_, fun _ _ h => h, ?_⟩
  have hso := hf.ok _ (List.getElem_mem h1)
  refine for_step (fun xs n m' => ∃ us more y5 y6, xs = chars us ∧ (∀ u ∈ us, u ∈ letC) ∧ n = [some (.lst (Ls.map triX)), some (.int (most : Int)), some (.ref F), some (.ref V), some (.int ((i : Nat) : Int)), y5, y6] ∧ m' = mset (mset m F (.dct true ((line ++ more).map fun s => (stdX s, D.bl true)))) V (.lst ((line ++ more).map stdX)) ∧ more.length + us.length ≤ 4 ∧ (line ++ more).Nodup ∧ (∀ s ∈ line ++ more, StdOk Ls s) ∧ (∀ S, Closed Ls S → ∀ s ∈ line ++ more, s ∈ S) ∧ ∀ u ∈ letC, u ∈ us ∨ goalL Ls (capL Ls) line[i] u ∈ line ++ more) ?_ ?_ _ _ _ ⟨[100, 119, 97, 114], [], _, _, rfl, fun _ h => h, rfl, by rw [List.append_nil], by decide, by rw [List.append_nil]; exact hf.nd, by rw [List.append_nil]; exact hf.ok, by rw [List.append_nil]; exact hf.least, fun u hu => .inl hu⟩
  · rintro n m' ⟨us, more, y5, y6, ex, _, rfl, rfl, hml, hnd, hok, hle, hgo⟩
    have ex : us = [] := by
      cases us with
      | nil => rfl
      | cons _ _ => cases ex
    subst ex
    walk_at "rd"
    have hml : more.length ≤ 4 := hml
    refine ⟨most + 5 - (i + 1), by omega, line ++ more, i + 1, _, _, ⟨by omega, rfl, rfl⟩, rfl, ⟨hnd, hok, List.mem_append_left _ hf.fresh, by rw [List.length_append]; omega, hle⟩, by rw [List.length_append]; omega, fun j hj hji u hu => ?_, rfl⟩
    by_cases hj1 : j < i
    · rw [List.getElem_append_left (by omega)]
      exact List.mem_append_left _ (hdone j (by omega) hj1 u hu)
    · have : j = i := by omega
      subst this
      rw [List.getElem_append_left h1]
      exact (hgo u hu).resolve_left (by simp)
  · rintro x xs n m' ⟨us, more, y5, y6, ex, hul, rfl, rfl, hml, hnd, hok, hle, hgo⟩ kk hk
    cases us with
    | nil => cases ex
    | cons u us =>
      injection ex with e1 e2
      subst e1 e2
      walk_at "rd"
      rw [List.length_cons] at hml
      have eat : atI ((line ++ more).map stdX) (i : Int) = some (stdX line[i]) := by
        have := atI_nat (xs := (line ++ more).map stdX) (i := i) (by rw [List.length_map, List.length_append]; omega)
        rw [Int.zero_add] at this
        rw [this, List.getElem_map, List.getElem_append_left h1]
      refine ⟨_, eat, Ls, _, u, rfl, hg, hl, hso, hul u List.mem_cons_self, ?_⟩
      unfold stepX
      walk_at "rd"
      generalize egl : goalL Ls (capL Ls) line[i] u = g
      have hgok : StdOk Ls g := by
        rw [← egl]
        exact std_goal hso _ _
      refine inT_of (kvs := (line ++ more).map fun s => (stdX s, D.bl true)) (by show moDct _ = _; rw [mF]; rfl) ?_
      by_cases hin : g ∈ line ++ more
      · rw [getT_in (fun _ => D.bl true) hin]
        walk_at "rd"
        rw [if_neg (by simp)]
        refine hk _ _ ⟨us, more, _, _, rfl, fun v hv => hul v (List.mem_cons_of_mem _ hv), rfl, rfl, by omega, hnd, hok, hle, fun v hv => ?_⟩
        rcases hgo v hv with h | h
        · rcases List.mem_cons.mp h with h | h
          · right
            rw [h, egl]
            exact hin
          · exact .inl h
        · exact .inr h
      · rw [getT_out (fun _ => D.bl true) hin]
        walk_at "rd"
        rw [if_pos (by simp)]
        have hlm : ((line ++ more).map fun s => (stdX s, D.bl true)).length < sizeLine := by
          rw [List.length_map, List.length_append]
          omega
        have hlm2 : ((line ++ more).map stdX).length < sizeLine := by
          rw [List.length_map, List.length_append]
          omega
        refine ⟨_, _, rfl, mF _ _, nkS g, nkS_of g, depth_S g, getT_out (fun _ => D.bl true) hin, hlm, ?_⟩
        rw [setF]
        refine ⟨⟨_, by rw [mset_same]; rfl⟩, _, mset_same, hlm2, ?_⟩
        rw [mset_mset]
        have e1 : ((line ++ more).map fun s => (stdX s, D.bl true)) ++ [(stdX g, D.bl true)] = (line ++ (more ++ [g])).map fun s => (stdX s, D.bl true) := by
          rw [← List.append_assoc, List.map_append (l₁ := line ++ more)]
          rfl
        have e2 : (line ++ more).map stdX ++ [stdX g] = (line ++ (more ++ [g])).map stdX := by
          rw [← List.append_assoc, List.map_append (l₁ := line ++ more)]
          rfl
        rw [e1, e2]
        have hmem : ∀ {s : Std}, s ∈ line ++ (more ++ [g]) → s ∈ line ++ more ∨ s = g := fun {s} h => by
          rw [← List.append_assoc] at h
          rcases List.mem_append.mp h with h | h
          · exact .inl h
          · exact .inr (by simpa using h)
        refine hk _ _ ⟨us, more ++ [g], _, _, rfl, fun v hv => hul v (List.mem_cons_of_mem _ hv), rfl, rfl, by rw [List.length_append, List.length_cons, List.length_nil]; omega, ?_, fun s hs => ?_, fun S hS s hs => ?_, fun v hv => ?_⟩
        · rw [← List.append_assoc, List.nodup_append]
          refine ⟨hnd, by simp, fun a ha b hb e => hin ?_⟩
          have : b = g := by simpa using hb
          rw [← this, ← e]
          exact ha
        · rcases hmem hs with h | h
          · exact hok s h
          · rw [h]
            exact hgok
        · rcases hmem hs with h | h
          · exact hle S hS s h
          · rw [h, ← egl]
            exact hS.go _ (hle S hS _ (List.mem_append_left _ (List.getElem_mem h1))) u (hul u List.mem_cons_self)
        · rcases hgo v hv with h | h
          · rcases List.mem_cons.mp h with h | h
            · right
              rw [h, egl]
              simp
            · exact .inl h
          · right
            rw [← List.append_assoc]
            exact List.mem_append_left _ h
end DL

namespace DL
open PySem PySem.Spec PyProof.Rows L2
/-! limits and books drawn -/
local macro_rules | `(tactic| walk_at "rd") => `(tactic| simp only [rSetT, rDct0T, rDct1T, rDc, rLcG, rbClause, rbEmit, rZip2, rZip3, rCallO, gLenD, gLenO, gMaxL, gSortL, gSortLO, rFld, rSetF, rMeth, rMake, rFrzI, rProp, rIsC, rRev, rAllK, rLcK, rLcKO, ew0, ew1, ew2, ew3, ew4, ew5, ew6, rRaise, rTry, xCls, enO, setO, rXf, rIsX, Option.elim_some, Option.elim_none, rSeq, rSet, rAsg, rRet, rRetN, rDrop, rIf, rSkip, rVar, rC, rOp, rUn, rTst, rTru, rNot, rAnd, rOr, rAndV, rOrV, rNotV, rIfE, rChain, rCons, rNil, rTup, rLst, rLstO, rCB, rLM, rSM, rSl, rPart, rNoPart, rAll, rRng1, rRng2, rFor, rCall, rAug, rSetIx, rLenSet, rFmt, rJoined, rJs, rLc, rLcO, rFrz, setAll, rYes, rNever, wipeN, nvs, enD, turnD, gNe, gLt, gLe, gGt, gGe, gIn, gNotIn, gIs, gIsNot, gMod, gFdiv, gPow, gAppend, gPop, gPopAt, gClear, gReverse, gExtend, gJoin, gSplit, nm_T, tp_T, at_0, at_1, at_2, at_3, at_4, at_5, at_6, at_7, ix_0, ix_1, ix_2, ix_3, ix_4, List.map_cons, List.map_nil, List.length_cons, List.length_nil, List.replicate, List.cons_append, List.nil_append, List.getElem?_cons_zero, List.getElem?_cons_succ, List.set_cons_zero, List.set_cons_succ, Option.some.injEq, exists_eq_left', exists_eq_left, exists_and_left, D.int.injEq, D.str.injEq, D.bl.injEq, D.ref.injEq, D.tup.injEq, D.lst.injEq, MO.lst.injEq, List.cons.injEq, and_true, true_and, if_true, if_false, Bool.false_eq_true, Nat.reduceSub, Nat.reduceAdd, reduceIte, reduceCtorEq, mset_same, mset_mset, Bool.not_true, Bool.not_false, imp_self, implies_true, not_false_eq_true, forall_const, ev0, ev1, ev2, ev3, ev4, ev5, ev6, ev7, ev8, ev9, ev10, ev11, ev12, ev13, ev14, ev15, ev16, ev17, ev18, ev19, ev20, ev21, ev22, ev23, ev24, ev25, ev26, ev27, ev28, ev29, ev30, ev31, ev32, ev33, ev34, ev35, ev36, ev37, ev38, ev39, ev40, ev41, ev42, ev43, ev44, ev45, ev46, ev47, ev48, ev49, ev50, ev51, ev52, ev53, ev54, ev55, ev56, ev57, ev58, ev59, ev60, ev61, ev62, ev63, ev64, ev65, ev66, ev67, ev68, ev69, ev70, ev71, ev72, ev73, ev74, ev75, ev76, ev77, ev78, ev79, ev80, ev81, ev82, ev83, ev84, ev85, ev86, ev87, ev88, ev89, ev90, ev91, ev92, ev93, ev94, ev95, ev96, ev97, ev98, ev99, ev100, ev101, ev102, ev103, ev104, ev105, ev106, ev107, ev108, ev109, ev110, ev111, ev112, ev113, ev114, ev115, ev116, ev117, ev118, ev119, ev120, ev121, ev122, ev123, ev124, ev125, ev126, ev127, ev128, ev129, ev130, ev131, ev132, ev133, ev134, ev135, ev136, ev137, ev138, ev139, ev140, ev141, ev142, ev143, ev144, ev145, ev146, ev147, ev148, ev149, ev150, ev151, ev152, ev153, ev154, ev155, ev156, ev157, ev158, ev159, ev160, ev161, ev162])
local macro_rules | `(tactic| walk_at "rq") => `(tactic| simp only [rSetT, rDct0T, rDct1T, rDc, rLcG, rbClause, rbEmit, rZip2, rZip3, rCallO, gLenD, gLenO, gMaxL, gSortL, gSortLO, rFld, rSetF, rMeth, rMake, rFrzI, rProp, rIsC, rRev, rAllK, rLcK, rLcKO, ew0, ew1, ew2, ew3, ew4, ew5, ew6, rRaise, rTry, xCls, enO, setO, rXf, rIsX, Option.elim_some, Option.elim_none, rSeq, rSet, rAsg, rRet, rRetN, rDrop, rIf, rSkip, rVar, rC, rOp, rUn, rTst, rTru, rNot, rAnd, rOr, rAndV, rOrV, rNotV, rIfE, rChain, rCons, rNil, rTup, rLst, rLstO, rCB, rLM, rSM, rSl, rPart, rNoPart, rAll, rRng1, rRng2, rFor, rCall, rAug, rSetIx, rLenSet, rFmt, rJoined, rJs, rLc, rLcO, rFrz, setAll, rYes, rNever, wipeN, nvs, enD, turnD, gNe, gLt, gLe, gGt, gGe, gIn, gNotIn, gIs, gIsNot, gMod, gFdiv, gPow, gAppend, gPop, gPopAt, gClear, gReverse, gExtend, gJoin, gSplit, nm_T, tp_T, at_0, at_1, at_2, at_3, at_4, at_5, at_6, at_7, ix_0, ix_1, ix_2, ix_3, ix_4, List.map_cons, List.map_nil, List.length_cons, List.length_nil, List.replicate, List.cons_append, List.nil_append, List.getElem?_cons_zero, List.getElem?_cons_succ, List.set_cons_zero, List.set_cons_succ, Option.some.injEq, exists_eq_left', exists_eq_left, exists_and_left, D.int.injEq, D.str.injEq, D.bl.injEq, D.ref.injEq, D.tup.injEq, D.lst.injEq, MO.lst.injEq, List.cons.injEq, and_true, true_and, if_true, if_false, Bool.false_eq_true, Nat.reduceSub, Nat.reduceAdd, reduceIte, reduceCtorEq, mset_same, mset_mset, Bool.not_true, Bool.not_false, imp_self, implies_true, not_false_eq_true, forall_const, ev0, ev1, ev2, ev3, ev4, ev5, ev6, ev7, ev8, ev9, ev10, ev11, ev12, ev13, ev14, ev15, ev16, ev17, ev18, ev19, ev20, ev21, ev22, ev23, ev24, ev25, ev26, ev27, ev28, ev29, ev30, ev31, ev32, ev33, ev34, ev35, ev36, ev37, ev38, ev39, ev40, ev41, ev42, ev43, ev44, ev45, ev46, ev47, ev48, ev49, ev50, ev51, ev52, ev53, ev54, ev55, ev56, ev57, ev58, ev59, ev60, ev61, ev62, ev63, ev64, ev65, ev66, ev67, ev68, ev69, ev70, ev71, ev72, ev73, ev74, ev75, ev76, ev77, ev78, ev79, ev80, ev81, ev82, ev83, ev84, ev85, ev86, ev87, ev88, ev89, ev90, ev91, ev92, ev93, ev94, ev95, ev96, ev97, ev98, ev99, ev100, ev101, ev102, ev103, ev104, ev105, ev106, ev107, ev108, ev109, ev110, ev111, ev112, ev113, ev114, ev115, ev116, ev117, ev118, ev119, ev120, ev121, ev122, ev123, ev124, ev125, ev126, ev127, ev128, ev129, ev130, ev131, ev132, ev133, ev134, ev135, ev136, ev137, ev138, ev139, ev140, ev141, ev142, ev143, ev144, ev145, ev146, ev147, ev148, ev149, ev150, ev151, ev152, ev153, ev154, ev155, ev156, ev157, ev158, ev159, ev160, ev161, ev162, Int.reduceEq, Int.reduceNe, Int.reduceLT, Int.reduceLE, Int.reduceNeg, decide_true, decide_false])
def N__law_limit : List Str := ["_law_bag_here", "_law_size", "_law_longest", "_law_ways", "_law_turn", "_law_way"]
def rd__law_limit : RS := rSeq (rSet (rLstO (rNil)) 3)
  (rSeq (rFor (rRng1 (rCons (rOp gAdd (rC (.int 1)) (rCall sp__law_draw (rCons (rVar 0) (rCons (rC (.int 2)) (rNil))))) (rNil))) (.nm 4) (rSeq (rSet (rLst (rCons (rOp gAdd (rC (.int 1)) (rCall sp__law_draw (rCons (rVar 0) (rCons (rVar 2) (rNil))))) (rNil))) 5)
  (rSeq (rIf (rTst (rOp gEq (rCall sp__law_draw (rCons (rVar 0) (rCons (rC (.int 3)) (rNil)))) (rC (.int 0)))) (rSet (rOp gAdd (rVar 5) (rLst (rCons (rOp gAdd (rC (.int 1)) (rCall sp__law_draw (rCons (rVar 0) (rCons (rVar 2) (rNil))))) (rNil)))) 5) (rSkip))
  (rDrop (rLM gAppend (rVar 3) (rCons (rVar 5) (rNil)))))))
  (rRet (rTup (rCons (rCall sp__law_kinds (rCons (rVar 0) (rNil))) (rCons (rCall sp__law_draw (rCons (rVar 0) (rCons (rVar 1) (rNil)))) (rCons (rFrz (rVar 3)) (rNil)))))))

def sp__law_limit : SpD := fun ds m q _ => ∃ b size lo, ds = [.ref b, .int size, .int lo] ∧ m b = some (.inv Bag) ∧ 0 < size ∧ size ≤ 41 ∧ 0 < lo ∧ lo ≤ 12 ∧ ∀ L, GoodL L → L.b < size → q (triX L) m
theorem rl__law_limit : ∀ ds m q xf, sp__law_limit ds m q xf → ds.length = ["_law_bag_here", "_law_size", "_law_longest"].length := fun ds m q xf ⟨_, _, _, e, _⟩ => by rw [e]; rfl
def GoodW (w : List Int) : Prop := 1 ≤ w.length ∧ w.length ≤ 2 ∧ ∀ i ∈ w, 1 ≤ i ∧ i ≤ 12
theorem rp__law_limit : ∀ ds m q xf, sp__law_limit ds m q xf → rd__law_limit (xdD xf) (enD q) (nvs N__law_limit ds) m := by
  rintro ds m q xf ⟨b, size, lo, rfl, hb, hs0, hs1, hl0, hl1, k⟩
  have hz : sizeLine = 16777216 := sizeLine_eq
  unfold rd__law_limit N__law_limit
  walk_at "rd"
  refine ⟨by omega, fun P hP => ⟨b, 2, rfl, by rw [mset_ne (mne hb hP)]; exact hb, by omega, by omega, fun r r0 r1 => ?_⟩⟩
  have hbP : ∀ o, mset m P o b = some (.inv Bag) := fun o => by rw [mset_ne (mne hb hP)]; exact hb
  walk_at "rd"
  refine ⟨by omega, by omega, ?_⟩
  refine for_step (fun xs n m' => ∃ ws y4 y5, n = [some (.ref b), some (.int size), some (.int lo), some (.ref P), y4, y5] ∧ m' = mset m P (.lst (waysX ws)) ∧ (∀ w ∈ ws, GoodW w) ∧ (ws.length : Int) + xs.length = 1 + r) ?_ ?_ _ _ _ ⟨[], _, _, rfl, rfl, by simp, by rw [rngD_length]; simp; omega⟩
  · rintro n m' ⟨ws, y4, y5, rfl, rfl, hw, hlen⟩
    have hlen : (ws.length : Int) = 1 + r := by simpa using hlen
    walk_at "rd"
    refine ⟨b, rfl, hbP _, fun ks hks => ⟨b, size, rfl, hbP _, hs0, by omega, fun bd b0 b1 => ?_⟩⟩
    refine ⟨_, mset_same, by omega, ?_⟩
    rw [mdel_mset hP]
    exact rt_same (k ⟨ks, bd, ws⟩ ⟨hks, b0, by show bd ≤ 40; omega, by show 1 ≤ ws.length ∧ ws.length ≤ 2; omega, hw⟩ b1)
  · rintro x xs n m' ⟨ws, y4, y5, rfl, rfl, hw, hlen⟩ kk hk
    rw [List.length_cons] at hlen
    walk_at "rd"
    refine ⟨b, lo, rfl, hbP _, hl0, by omega, fun a a0 a1 => ?_⟩
    walk_at "rd"
    refine ⟨by omega, b, 3, rfl, hbP _, by omega, by omega, fun t _ _ => ?_⟩
    walk_at "rd"
    have hwl : (waysX ws).length < sizeLine := by
      unfold waysX
      rw [List.length_map]
      omega
    have go : ∀ w, GoodW w → kk [some (.ref b), some (.int size), some (.int lo), some (.ref P), some x, some (wayX w)] (mset m P (.lst (waysX ws ++ [wayX w]))) := fun w gw => by
      refine hk _ _ ⟨ws ++ [w], _, _, rfl, by unfold waysX; rw [List.map_append]; rfl, fun v hv => ?_, by rw [List.length_append, List.length_cons, List.length_nil]; omega⟩
      rcases List.mem_append.mp hv with h | h
      · exact hw v h
      · have : v = w := by simpa using h
        rw [this]
        exact gw
    refine ite2 (fun ht => ?_) fun ht => ?_
    · refine ⟨b, lo, rfl, hbP _, hl0, by omega, fun a2 a20 a21 => ?_⟩
      walk_at "rd"
      refine ⟨by omega, by omega, ⟨_, rfl⟩, hwl, ?_⟩
      exact go [1 + a, 1 + a2] ⟨by simp, by simp, fun i hi => by simp at hi; omega⟩
    · refine ⟨⟨_, rfl⟩, hwl, ?_⟩
      exact go [1 + a] ⟨by simp, by simp, fun i hi => by simp at hi; omega⟩
def N__law_book : List Str := ["_law_bag_here", "_law_most_stands", "_law_plain", "_law_turn", "_law_size", "_law_longest"]
def rd__law_book : RS := rSeq (rSet (rLstO (rNil)) 2)
  (rSeq (rFzS 2 (rFor (rRng1 (rCons (rOp gIx (rLst (rCons (rC (.int 1)) (rCons (rC (.int 1)) (rCons (rC (.int 2)) (rCons (rC (.int 2)) (rCons (rC (.int 3)) (rCons (rC (.int 4)) (rNil)))))))) (rCall sp__law_draw (rCons (rVar 0) (rCons (rC (.int 6)) (rNil))))) (rNil))) (.nm 3) (rSeq (rAsg (rOp gIx (rLst (rCons (rTup (rCons (rC (.int 4)) (rCons (rC (.int 2)) (rNil)))) (rCons (rTup (rCons (rC (.int 7)) (rCons (rC (.int 3)) (rNil)))) (rCons (rTup (rCons (rC (.int 3)) (rCons (rC (.int 1)) (rNil)))) (rNil))))) (rCall sp__law_draw (rCons (rVar 0) (rCons (rC (.int 3)) (rNil))))) (.tp [4, 5]))
  (rDrop (rLM gAppend (rVar 2) (rCons (rCall sp__law_limit (rCons (rVar 0) (rCons (rVar 4) (rCons (rVar 5) (rNil))))) (rNil)))))))
  (rSeq (rWhile (rAnd (rTst (rOp gGt (rCB gLen (rCons (rVar 2) (rNil))) (rC (.int 1)))) (rTst (rOp gGt (rCB gLen (rCons (rCall sp__law_stands (rCons (rVar 2) (rCons (rVar 1) (rNil)))) (rNil))) (rVar 1)))) (rSet (rSl (rVar 2) (rNoPart) (rPart (rUn gNeg (rC (.int 1))))) 2))
  (rSeq (rIf (rTst (rOp gGt (rCB gLen (rCons (rCall sp__law_stands (rCons (rVar 2) (rCons (rVar 1) (rNil)))) (rNil))) (rVar 1))) (rSet (rLst (rCons (rTup (rCons (rC (.str [100])) (rCons (rOp gFdiv (rOp gIx (rOp gIx (rVar 2) (rC (.int 0))) (rC (.int 1))) (rC (.int 2))) (rCons (rLst (rCons (rLst (rCons (rC (.int 1)) (rNil))) (rNil))) (rNil))))) (rNil))) 2) (rSkip))
  (rRet (rVar 2)))))

def sp__law_book : SpD := fun ds m q _ => ∃ b most, ds = [.ref b, .int ((most : Nat) : Int)] ∧ m b = some (.inv Bag) ∧ 1 ≤ most ∧ most ≤ 1000 ∧ ∀ Ls S, (∀ L ∈ Ls, GoodL L) → 1 ≤ Ls.length → Ls.length ≤ 4 → Closed Ls S → S.length ≤ max most 15 → q (.lst (Ls.map triX)) m
theorem rl__law_book : ∀ ds m q xf, sp__law_book ds m q xf → ds.length = ["_law_bag_here", "_law_most_stands"].length := fun ds m q xf ⟨_, _, e, _⟩ => by rw [e]; rfl
theorem cut_front {α : Type} (w : List α) : cut w none (some (-1)) = w.dropLast := by
  unfold cut
  rw [HT.sIx_none]
  have : HT.sIx w.length w.length (some (-1)) = w.length - 1 := by
    have := HT.clip_eq (-1) w.length w.length
    rw [if_pos (by decide)] at this
    omega
  rw [this]
  simp [List.dropLast_eq_take]
def smallS (n : Nat) : List Std := (List.range 3).flatMap fun r : Nat => (List.range n).map fun c : Nat => (⟨(r : Int), [(c : Int)], [[0]]⟩ : Std)
theorem small_closed {b : Int} (h0 : 0 ≤ b) (h1 : b ≤ 3) : ∃ S, Closed [⟨[100], b, [[1]]⟩] S ∧ S.length ≤ 15 := by
  have hb : b = 0 ∨ b = 1 ∨ b = 2 ∨ b = 3 := by omega
  rcases hb with rfl | rfl | rfl | rfl
  · exact ⟨smallS 2, ⟨by decide +kernel, by decide +kernel⟩, by decide +kernel⟩
  · exact ⟨smallS 3, ⟨by decide +kernel, by decide +kernel⟩, by decide +kernel⟩
  · exact ⟨smallS 4, ⟨by decide +kernel, by decide +kernel⟩, by decide +kernel⟩
  · exact ⟨smallS 5, ⟨by decide +kernel, by decide +kernel⟩, by decide +kernel⟩
theorem rp__law_book : ∀ ds m q xf, sp__law_book ds m q xf → rd__law_book (xdD xf) (enD q) (nvs N__law_book ds) m := by
  rintro ds m q xf ⟨b, most, rfl, hb, hm1, hm2, k⟩
  have hz : sizeLine = 16777216 := sizeLine_eq
  unfold rd__law_book N__law_book rFzS
  walk_at "rd"
  refine ⟨by omega, fun P hP => ⟨by omega, b, 6, rfl, by rw [mset_ne (mne hb hP)]; exact hb, by omega, by omega, fun r r0 r1 => ?_⟩⟩
  have hbP : ∀ o, mset m P o b = some (.inv Bag) := fun o => by rw [mset_ne (mne hb hP)]; exact hb
  walk_at "rd"
  obtain ⟨x, hx, ex⟩ := atI_mem (L := [D.int 1, D.int 1, D.int 2, D.int 2, D.int 3, D.int 4]) r0 r1
  have hx : ∃ j : Int, x = .int j ∧ 1 ≤ j ∧ j ≤ 4 := by
    simp at hx
    rcases hx with rfl | rfl | rfl | rfl <;> exact ⟨_, rfl, by decide, by decide⟩
  obtain ⟨j, rfl, j0, j1⟩ := hx
  refine ⟨_, ex, ?_⟩
  walk_at "rd"
  refine ⟨by omega, by omega, ?_⟩
  refine for_step (fun xs n m' => ∃ Ls y3 y4 y5, n = [some (.ref b), some (.int (most : Int)), some (.ref P), y3, y4, y5] ∧ m' = mset m P (.lst (Ls.map triX)) ∧ (∀ L ∈ Ls, GoodL L ∧ L.b < 7) ∧ (Ls.length : Int) + xs.length = j) ?_ ?_ _ _ _ ⟨[], _, _, _, rfl, rfl, by simp, by rw [rngD_length]; simp; omega⟩
  · rintro n m' ⟨Ls, y3, y4, y5, rfl, rfl, hg, hlen⟩
    have hlen : (Ls.length : Int) = j := by simpa using hlen
    walk_at "rd"
    rw [mdel_mset hP]
    refine ⟨fun kz n m' => ∃ Ls, n = [some (.ref b), some (.int (most : Int)), some (.lst (Ls.map triX)), y3, y4, y5] ∧ m' = m ∧ (∀ L ∈ Ls, GoodL L ∧ L.b < 7) ∧ 1 ≤ Ls.length ∧ Ls.length ≤ 4 ∧ kz = Ls.length, ⟨_, Ls, rfl, rfl, hg, by omega, by omega, rfl⟩, ?_⟩
    clear hlen hg
    rintro kz n m' ⟨Ls, rfl, rfl, hg, hl1, hl4, rfl⟩
    have hll : (Ls.map triX).length = Ls.length := List.length_map ..
    have hgg : ∀ L ∈ Ls, GoodL L := fun L hL => (hg L hL).1
    have hsl : ∀ line : List Std, (sortD (line.map stdX)).length = line.length := fun line => by rw [sortD_len, List.length_map]
    walk_at "rd"
    rw [hll]
    have fin : sp__law_stands [.lst (Ls.map triX), .int (most : Int)] m' (fun d m1 => gLen [d] m1 fun d m1 => gCmp (fun i j => decide (j < i)) (fun a b => decide (b < a)) d (.int (most : Int)) m1 fun d m1 => ∃ b0, d = .bl b0 ∧ if b0 = true then ∃ d, atI (Ls.map triX) 0 = some d ∧ gIx d (.int 1) m1 fun x m1 => gI CDiv (fun i j => i / j) x (.int 2) m1 fun y m2 => 1 ≤ sizeLine ∧ 1 ≤ sizeLine ∧ 3 ≤ sizeLine ∧ 1 ≤ sizeLine ∧ rtD q (.lst [.tup [.str [100], y, .lst [.lst [.int 1]]]]) m2 else rtD q (.lst (Ls.map triX)) m1) (fun c fs m' => xdD xf c fs [some (.ref b), some (.int (most : Int)), some (.lst (Ls.map triX)), y3, y4, y5] m') := by
      refine ⟨Ls, most, rfl, hgg, hl4, hm1, hm2, fun line hf hc => ?_⟩
      walk_at "rd"
      rw [hsl]
      refine ite2 (fun h => ?_) fun h => ?_
      · cases Ls with
        | nil => exact absurd hl1 (by decide)
        | cons L Ls =>
          have gL := hg L List.mem_cons_self
          have lo := gL.1.lo
          refine ⟨triX L, by rw [List.map_cons, at_0], ?_⟩
          unfold triX triD
          walk_at "rd"
          have hd0 : 0 ≤ L.b / 2 := by omega
          have hd3 : L.b / 2 ≤ 3 := by omega
          obtain ⟨S, hS, hS15⟩ := small_closed hd0 hd3
          refine ⟨⟨by decide, by decide⟩, by omega, by omega, by omega, by omega, rt_same (k [⟨[100], L.b / 2, [[1]]⟩] S (fun M hM => ?_) (by simp) (by simp) hS (by omega))⟩
          have : M = ⟨[100], L.b / 2, [[1]]⟩ := by simpa using hM
          rw [this]
          exact ⟨by show isKindsC [100] = true; decide, hd0, by show L.b / 2 ≤ 40; omega, by simp, fun w hw => by
            have : w = [1] := by simpa using hw
            rw [this]
            simp⟩
      · have hle : line.length ≤ most := by
          have := mt decide_eq_true h
          omega
        exact rt_same (k Ls line hgg hl1 hl4 (hc hle) (by omega))
    refine ite2 (fun h1 => ?_) fun h1 => fin
    have h1 : 1 < Ls.length := by have := of_decide_eq_true h1; omega
    refine ⟨Ls, most, rfl, hgg, hl4, hm1, hm2, fun line hf hc => ?_⟩
    walk_at "rd"
    rw [hsl]
    refine ite2 (fun h => ?_) fun h => fin
    refine ⟨_, fun _ _ h => h, Ls.length - 1, by omega, Ls.dropLast, ?_, rfl, fun L hL => hg L (List.dropLast_subset _ hL), by rw [List.length_dropLast]; omega, by rw [List.length_dropLast]; omega, by rw [List.length_dropLast]⟩
    rw [cut_front, List.map_dropLast]
  · rintro x xs n m' ⟨Ls, y3, y4, y5, rfl, rfl, hg, hlen⟩ kk hk
    rw [List.length_cons] at hlen
    walk_at "rd"
    refine ⟨by omega, by omega, by omega, by omega, b, 3, rfl, hbP _, by omega, by omega, fun t t0 t1 => ?_⟩
    walk_at "rd"
    have hd : ∃ s l : Int, 0 < s ∧ s ≤ 7 ∧ 0 < l ∧ l ≤ 12 ∧ atI [D.tup [D.int 4, D.int 2], D.tup [D.int 7, D.int 3], D.tup [D.int 3, D.int 1]] t = some (.tup [.int s, .int l]) := by
      obtain ⟨x, hx, ex⟩ := atI_mem (L := [D.tup [D.int 4, D.int 2], D.tup [D.int 7, D.int 3], D.tup [D.int 3, D.int 1]]) t0 t1
      simp at hx
      rcases hx with rfl | rfl | rfl <;> exact ⟨_, _, by decide, by decide, by decide, by decide, ex⟩
    obtain ⟨s, l, s0, s1, l0, l1, ed⟩ := hd
    refine ⟨_, ed, ?_⟩
    walk_at "rd"
    refine ⟨⟨_, rfl⟩, b, s, l, rfl, hbP _, s0, by omega, l0, l1, fun L gL hL => ?_⟩
    refine ⟨_, mset_same, by rw [List.length_map]; omega, ?_⟩
    rw [mset_mset]
    refine hk _ _ ⟨Ls ++ [L], _, _, _, rfl, by rw [List.map_append]; rfl, fun M hM => ?_, by rw [List.length_append, List.length_cons, List.length_nil]; omega⟩
    rcases List.mem_append.mp hM with h | h
    · exact hg M h
    · have : M = L := by simpa using h
      rw [this]
      exact ⟨gL, by omega⟩
end DL

namespace DL
open PySem PySem.Spec PyProof.Rows L2
/-! books made, rows drawn -/
local macro_rules | `(tactic| walk_at "rd") => `(tactic| simp only [rSetT, rDct0T, rDct1T, rDc, rLcG, rbClause, rbEmit, rZip2, rZip3, rCallO, gLenD, gLenO, gMaxL, gSortL, gSortLO, rFld, rSetF, rMeth, rMake, rFrzI, rProp, rIsC, rRev, rAllK, rLcK, rLcKO, ew0, ew1, ew2, ew3, ew4, ew5, ew6, rRaise, rTry, xCls, enO, setO, rXf, rIsX, Option.elim_some, Option.elim_none, rSeq, rSet, rAsg, rRet, rRetN, rDrop, rIf, rSkip, rVar, rC, rOp, rUn, rTst, rTru, rNot, rAnd, rOr, rAndV, rOrV, rNotV, rIfE, rChain, rCons, rNil, rTup, rLst, rLstO, rCB, rLM, rSM, rSl, rPart, rNoPart, rAll, rRng1, rRng2, rFor, rCall, rAug, rSetIx, rLenSet, rFmt, rJoined, rJs, rLc, rLcO, rFrz, setAll, rYes, rNever, wipeN, nvs, enD, turnD, gNe, gLt, gLe, gGt, gGe, gIn, gNotIn, gIs, gIsNot, gMod, gFdiv, gPow, gAppend, gPop, gPopAt, gClear, gReverse, gExtend, gJoin, gSplit, nm_T, tp_T, at_0, at_1, at_2, at_3, at_4, at_5, at_6, at_7, ix_0, ix_1, ix_2, ix_3, ix_4, List.map_cons, List.map_nil, List.length_cons, List.length_nil, List.replicate, List.cons_append, List.nil_append, List.getElem?_cons_zero, List.getElem?_cons_succ, List.set_cons_zero, List.set_cons_succ, Option.some.injEq, exists_eq_left', exists_eq_left, exists_and_left, D.int.injEq, D.str.injEq, D.bl.injEq, D.ref.injEq, D.tup.injEq, D.lst.injEq, MO.lst.injEq, List.cons.injEq, and_true, true_and, if_true, if_false, Bool.false_eq_true, Nat.reduceSub, Nat.reduceAdd, reduceIte, reduceCtorEq, mset_same, mset_mset, Bool.not_true, Bool.not_false, imp_self, implies_true, not_false_eq_true, forall_const, ev0, ev1, ev2, ev3, ev4, ev5, ev6, ev7, ev8, ev9, ev10, ev11, ev12, ev13, ev14, ev15, ev16, ev17, ev18, ev19, ev20, ev21, ev22, ev23, ev24, ev25, ev26, ev27, ev28, ev29, ev30, ev31, ev32, ev33, ev34, ev35, ev36, ev37, ev38, ev39, ev40, ev41, ev42, ev43, ev44, ev45, ev46, ev47, ev48, ev49, ev50, ev51, ev52, ev53, ev54, ev55, ev56, ev57, ev58, ev59, ev60, ev61, ev62, ev63, ev64, ev65, ev66, ev67, ev68, ev69, ev70, ev71, ev72, ev73, ev74, ev75, ev76, ev77, ev78, ev79, ev80, ev81, ev82, ev83, ev84, ev85, ev86, ev87, ev88, ev89, ev90, ev91, ev92, ev93, ev94, ev95, ev96, ev97, ev98, ev99, ev100, ev101, ev102, ev103, ev104, ev105, ev106, ev107, ev108, ev109, ev110, ev111, ev112, ev113, ev114, ev115, ev116, ev117, ev118, ev119, ev120, ev121, ev122, ev123, ev124, ev125, ev126, ev127, ev128, ev129, ev130, ev131, ev132, ev133, ev134, ev135, ev136, ev137, ev138, ev139, ev140, ev141, ev142, ev143, ev144, ev145, ev146, ev147, ev148, ev149, ev150, ev151, ev152, ev153, ev154, ev155, ev156, ev157, ev158, ev159, ev160, ev161, ev162])
local macro_rules | `(tactic| walk_at "rq") => `(tactic| simp only [rSetT, rDct0T, rDct1T, rDc, rLcG, rbClause, rbEmit, rZip2, rZip3, rCallO, gLenD, gLenO, gMaxL, gSortL, gSortLO, rFld, rSetF, rMeth, rMake, rFrzI, rProp, rIsC, rRev, rAllK, rLcK, rLcKO, ew0, ew1, ew2, ew3, ew4, ew5, ew6, rRaise, rTry, xCls, enO, setO, rXf, rIsX, Option.elim_some, Option.elim_none, rSeq, rSet, rAsg, rRet, rRetN, rDrop, rIf, rSkip, rVar, rC, rOp, rUn, rTst, rTru, rNot, rAnd, rOr, rAndV, rOrV, rNotV, rIfE, rChain, rCons, rNil, rTup, rLst, rLstO, rCB, rLM, rSM, rSl, rPart, rNoPart, rAll, rRng1, rRng2, rFor, rCall, rAug, rSetIx, rLenSet, rFmt, rJoined, rJs, rLc, rLcO, rFrz, setAll, rYes, rNever, wipeN, nvs, enD, turnD, gNe, gLt, gLe, gGt, gGe, gIn, gNotIn, gIs, gIsNot, gMod, gFdiv, gPow, gAppend, gPop, gPopAt, gClear, gReverse, gExtend, gJoin, gSplit, nm_T, tp_T, at_0, at_1, at_2, at_3, at_4, at_5, at_6, at_7, ix_0, ix_1, ix_2, ix_3, ix_4, List.map_cons, List.map_nil, List.length_cons, List.length_nil, List.replicate, List.cons_append, List.nil_append, List.getElem?_cons_zero, List.getElem?_cons_succ, List.set_cons_zero, List.set_cons_succ, Option.some.injEq, exists_eq_left', exists_eq_left, exists_and_left, D.int.injEq, D.str.injEq, D.bl.injEq, D.ref.injEq, D.tup.injEq, D.lst.injEq, MO.lst.injEq, List.cons.injEq, and_true, true_and, if_true, if_false, Bool.false_eq_true, Nat.reduceSub, Nat.reduceAdd, reduceIte, reduceCtorEq, mset_same, mset_mset, Bool.not_true, Bool.not_false, imp_self, implies_true, not_false_eq_true, forall_const, ev0, ev1, ev2, ev3, ev4, ev5, ev6, ev7, ev8, ev9, ev10, ev11, ev12, ev13, ev14, ev15, ev16, ev17, ev18, ev19, ev20, ev21, ev22, ev23, ev24, ev25, ev26, ev27, ev28, ev29, ev30, ev31, ev32, ev33, ev34, ev35, ev36, ev37, ev38, ev39, ev40, ev41, ev42, ev43, ev44, ev45, ev46, ev47, ev48, ev49, ev50, ev51, ev52, ev53, ev54, ev55, ev56, ev57, ev58, ev59, ev60, ev61, ev62, ev63, ev64, ev65, ev66, ev67, ev68, ev69, ev70, ev71, ev72, ev73, ev74, ev75, ev76, ev77, ev78, ev79, ev80, ev81, ev82, ev83, ev84, ev85, ev86, ev87, ev88, ev89, ev90, ev91, ev92, ev93, ev94, ev95, ev96, ev97, ev98, ev99, ev100, ev101, ev102, ev103, ev104, ev105, ev106, ev107, ev108, ev109, ev110, ev111, ev112, ev113, ev114, ev115, ev116, ev117, ev118, ev119, ev120, ev121, ev122, ev123, ev124, ev125, ev126, ev127, ev128, ev129, ev130, ev131, ev132, ev133, ev134, ev135, ev136, ev137, ev138, ev139, ev140, ev141, ev142, ev143, ev144, ev145, ev146, ev147, ev148, ev149, ev150, ev151, ev152, ev153, ev154, ev155, ev156, ev157, ev158, ev159, ev160, ev161, ev162, Int.reduceEq, Int.reduceNe, Int.reduceLT, Int.reduceLE, Int.reduceNeg, decide_true, decide_false])
def N__law_made : List Str := ["_law_plain", "_law_kinds_here", "_law_most", "_law_ways", "_law_way"]
def rd__law_made : RS := rRet (rFrzI (rMake "Book" sp_Book___init__ [] (rCons (rLc (rAll (rVar 0)) (.tp [1, 2, 3]) (rYes) (rFrzI (rMake "Limit" sp_Limit___init__ [] (rCons (rVar 1) (rCons (rVar 2) (rCons (rLc (rAll (rVar 3)) (.nm 4) (rYes) (rCB gListA (rCons (rVar 4) (rNil))) [4]) (rNil)))))) [1, 2, 3]) (rNil))))

def sp__law_made : SpD := fun ds m q _ => ∃ Ls S, ds = [.lst (Ls.map triX)] ∧ (∀ L ∈ Ls, GoodL L) ∧ 1 ≤ Ls.length ∧ Ls.length ≤ 4 ∧ Closed Ls S ∧ S.length ≤ 300 ∧ ∀ vis, Vis Ls vis → BookOk Ls (tabX Ls vis) (· ∈ vis) → q (bookX Ls (tabX Ls vis)) m
theorem rl__law_made : ∀ ds m q xf, sp__law_made ds m q xf → ds.length = ["_law_plain"].length := fun ds m q xf ⟨_, _, e, _⟩ => by rw [e]; rfl
def madeF : D → Option D
  | .tup [.str cs, .int b, .lst ws] => some (limD cs b ws)
  | _ => none
theorem made_all : ∀ Ls : List Lim, (Ls.map triX).filterMap madeF = Ls.map limX
  | [] => rfl
  | L :: Ls => by
    rw [List.map_cons, List.filterMap_cons_some (show madeF (triX L) = some (limX L) from rfl), made_all Ls]
    rfl
theorem fls_way (k : Nat) : ∀ ws : List (List Int), fls (k + 1) (waysX ws) = true
  | [] => rfl
  | w :: ws => by
    show fls (k + 1) (wayX w :: waysX ws) = true
    rw [fls, fls_way k ws]
    unfold wayX
    rw [fl, fls_ints]
    rfl
theorem good_ways {L : Lim} (g : GoodL L) : waysD (.lst (waysX L.ws)) = true ∧ shortW (.lst (waysX L.ws)) = true := by
  have hl : (waysX L.ws).length = L.ws.length := List.length_map ..
  have hg := g.len
  constructor
  · show (_ && _ && _) = true
    rw [hl, decide_eq_true hg.1, decide_eq_true hg.2, Bool.true_and, Bool.true_and, List.all_eq_true]
    intro d hd
    obtain ⟨w, hw, rfl⟩ := List.mem_map.mp hd
    have gw := g.way w hw
    unfold wayX
    rw [wayD_lst, List.length_map, decide_eq_true gw.1, decide_eq_true gw.2.1, Bool.true_and, Bool.true_and, List.all_eq_true]
    intro d hd
    obtain ⟨i, hi, rfl⟩ := List.mem_map.mp hd
    have := gw.2.2 i hi
    show (_ && _) = true
    simp
    omega
  · show (_ && _) = true
    rw [hl, decide_eq_true (by omega), Bool.true_and, List.all_eq_true]
    intro d hd
    obtain ⟨w, hw, rfl⟩ := List.mem_map.mp hd
    have gw := g.way w hw
    show decide ((w.map D.int).length ≤ 1000000) = true
    rw [List.length_map]
    exact decide_eq_true (by omega)
theorem rp__law_made : ∀ ds m q xf, sp__law_made ds m q xf → rd__law_made (xdD xf) (enD q) (nvs N__law_made ds) m := by
  rintro ds m q xf ⟨Ls, S, rfl, hg, hl1, hl4, hS, hS3, k⟩
  have hz : sizeLine = 16777216 := sizeLine_eq
  unfold rd__law_made N__law_made
  walk_at "rd"
  have hll : (Ls.map triX).length = Ls.length := List.length_map ..
  intro PB hPB
  revert PB hPB
  refine comp_go madeF (by rw [hll]; omega) (fun P hP x hx acc hla kk hk => ?_) fun P hP => ?_
  · obtain ⟨L, hL, rfl⟩ := List.mem_map.mp hx
    have gL := hg L hL
    unfold triX triD at hk ⊢
    walk_at "rd"
    have hwl : (waysX L.ws).length = L.ws.length := List.length_map ..
    have := gL.len
    refine comp_go (fun d => some d) (by rw [hwl]; omega) (fun P2 hP2 x hx acc2 hla2 kk2 hk2 => ?_) fun P2 hP2 => ?_
    · obtain ⟨w, hw, rfl⟩ := List.mem_map.mp hx
      unfold wayX at hk2 ⊢
      walk_at "rd"
      exact ⟨hla2, hk2⟩
    rw [mdel_mset hP2, List.filterMap_some]
    refine ⟨_, mset_same, fun p hp => ⟨p, _, _, _, .lst (waysX L.ws), _, rfl, mset_same, any_kinds gL.kinds, rfl, fl_vw 60 _ (by rw [fl]; exact fls_way 58 _), (good_ways gL).2, ?_⟩⟩
    have e1 : isKindsD (.str L.cs) = true := gL.kinds
    have e2 : betD (.int L.b) 0 40 = true := by
      show (_ && _) = true
      have := gL.lo
      have := gL.hi
      simp
      omega
    rw [e1, e2, (good_ways gL).1]
    have hPp : P ≠ p := fun z => by
      rw [← z, mset_same] at hp
      cases hp
    refine ⟨rfl, _, _, mset_same, ?_⟩
    rw [mset_mset, mdel_mset hp]
    refine ⟨acc, mset_same, hla, ?_⟩
    show kk (mset (mset m P (.lst acc)) P (.lst (acc ++ [limD L.cs L.b (waysX L.ws)])))
    rw [mset_mset]
    exact hk
  rw [mdel_mset hP, made_all]
  refine ⟨_, mset_same, fun p hp => ⟨p, Ls, S, rfl, mset_same, hg, ⟨hl1, hl4⟩, hS, hS3, fun Q vis hQ hnd hB => ⟨rfl, ?_⟩⟩⟩
  have hpQ : p ≠ Q := fun z => by
    rw [← z, mset_same] at hQ
    cases hQ
  rw [mset_ne (Ne.symm hpQ)] at hQ
  refine ⟨_, _, by rw [mset_ne hpQ, mset_same], ?_⟩
  rw [mset_mset]
  have em : mdel (mset (mset m p (.ins "Book" (bookF Ls (.ref Q)))) Q (.dct true (tabX Ls vis))) p = mset m Q (.dct true (tabX Ls vis)) := by
    rw [mset_comm hpQ, mdel_mset (by rw [mset_ne hpQ]; exact hp)]
  have ef : frzF (bookF Ls (.ref Q)) (mset m Q (.dct true (tabX Ls vis))) = (bookF Ls (.dct true (tabX Ls vis)), m) := by
    have e4 : frz1 (.ref Q) (mset m Q (.dct true (tabX Ls vis))) = (.dct true (tabX Ls vis), m) := by
      unfold frz1
      simp only [mset_same]
      rw [mdel_mset hQ]
    show ((_, D.tup _) :: (_, D.int _) :: (_, stdX _) :: (_, (frz1 (.ref Q) (mset m Q (.dct true (tabX Ls vis)))).1) :: [], (frz1 (.ref Q) (mset m Q (.dct true (tabX Ls vis)))).2) = _
    rw [e4]
    rfl
  rw [em, ef]
  exact rt_same (k vis hnd hB)
def N__law_row : List Str := ["_law_bag_here", "_law_most", "_law_letters", "_law_k"]
def rd__law_row : RS := rSeq (rSet (rOp gIx (rLst (rCons (rC (.str [100, 119, 97, 114])) (rCons (rC (.str [100, 114])) (rCons (rC (.str [100, 100, 119, 114])) (rCons (rC (.str [100, 114, 114])) (rNil)))))) (rCall sp__law_draw (rCons (rVar 0) (rCons (rC (.int 4)) (rNil))))) 2)
  (rRet (rSM gJoin (rC (.str [])) (rCons (rLc (rRng1 (rCons (rCall sp__law_draw (rCons (rVar 0) (rCons (rOp gAdd (rVar 1) (rC (.int 1))) (rNil)))) (rNil))) (.nm 3) (rYes) (rOp gIx (rVar 2) (rCall sp__law_draw (rCons (rVar 0) (rCons (rCB gLen (rCons (rVar 2) (rNil))) (rNil))))) [3]) (rNil))))

def sp__law_row : SpD := fun ds m q _ => ∃ b most, ds = [.ref b, .int most] ∧ m b = some (.inv Bag) ∧ 0 ≤ most ∧ most ≤ 1000 ∧ ∀ rs, isRowC rs = true → (rs.length : Int) ≤ most → q (.str rs) m
theorem rl__law_row : ∀ ds m q xf, sp__law_row ds m q xf → ds.length = ["_law_bag_here", "_law_most"].length := fun ds m q xf ⟨_, _, e, _⟩ => by rw [e]; rfl
theorem rp__law_row : ∀ ds m q xf, sp__law_row ds m q xf → rd__law_row (xdD xf) (enD q) (nvs N__law_row ds) m := by
  rintro ds m q xf ⟨b, most, rfl, hb, hm0, hm1, k⟩
  have hz : sizeLine = 16777216 := sizeLine_eq
  unfold rd__law_row N__law_row
  walk_at "rd"
  refine ⟨by omega, b, 4, rfl, hb, by omega, by omega, fun r r0 r1 => ?_⟩
  walk_at "rd"
  obtain ⟨y, hy, ey⟩ := atI_mem (L := [D.str [100, 119, 97, 114], D.str [100, 114], D.str [100, 100, 119, 114], D.str [100, 114, 114]]) r0 r1
  have hy : ∃ cs, y = .str cs ∧ (∀ c ∈ cs, isL c = true) ∧ 1 ≤ cs.length ∧ cs.length ≤ 4 := by
    simp at hy
    rcases hy with rfl | rfl | rfl | rfl <;> exact ⟨_, rfl, by decide, by decide, by decide⟩
  obtain ⟨cs, rfl, hcs, hc1, hc4⟩ := hy
  refine ⟨_, ey, ⟨_, rfl⟩, b, most + 1, rfl, hb, by omega, by omega, fun n n0 n1 => ?_⟩
  walk_at "rd"
  refine ⟨by omega, by omega, fun P hP => ?_⟩
  have hbP : ∀ o, mset m P o b = some (.inv Bag) := fun o => by rw [mset_ne (mne hb hP)]; exact hb
  refine comp_step (fun xs m' => ∃ rs, m' = mset m P (.lst (chars rs)) ∧ (∀ c ∈ rs, isL c = true) ∧ (rs.length : Int) + xs.length = n) ?_ ?_ _ _ ⟨[], rfl, by simp, by rw [rngD_length]; simp; omega⟩
  · rintro m' ⟨rs, rfl, hrs, hlen⟩
    have hlen : (rs.length : Int) = n := by simpa using hlen
    rw [mdel_mset hP]
    refine ⟨_, mset_same, ?_⟩
    refine ⟨_, txts_chars rs, by rw [sum_ones]; omega, ?_⟩
    rw [joinC_nil, flat_ones]
    refine rt_same (k rs ?_ (by omega))
    show (_ && _) = true
    rw [decide_eq_true (by omega), Bool.true_and, List.all_eq_true]
    exact hrs
  · rintro x xs m' ⟨rs, rfl, hrs, hlen⟩ kk hk
    rw [List.length_cons] at hlen
    walk_at "rd"
    refine ⟨by omega, b, cs.length, rfl, hbP _, by omega, by omega, fun t t0 t1 => ?_⟩
    obtain ⟨c, hc, ec⟩ := atI_mem (L := cs) t0 t1
    walk_at "rd"
    refine ⟨by omega, c, ec, by rw [chars_length]; omega, ?_⟩
    refine hk _ ⟨rs ++ [c], by rw [show chars (rs ++ [c]) = chars rs ++ [.str [c]] by simp [chars]], fun d hd => ?_, by rw [List.length_append, List.length_cons, List.length_nil]; omega⟩
    rcases List.mem_append.mp hd with h | h
    · exact hrs d h
    · have : d = c := by simpa using h
      rw [this]
      exact hcs c hc
end DL

namespace DL
open PySem PySem.Spec PyProof.Rows L2
/-! a book asked of a row -/
local macro_rules | `(tactic| walk_at "rd") => `(tactic| simp only [rSetT, rDct0T, rDct1T, rDc, rLcG, rbClause, rbEmit, rZip2, rZip3, rCallO, gLenD, gLenO, gMaxL, gSortL, gSortLO, rFld, rSetF, rMeth, rMake, rFrzI, rProp, rIsC, rRev, rAllK, rLcK, rLcKO, ew0, ew1, ew2, ew3, ew4, ew5, ew6, rRaise, rTry, xCls, enO, setO, rXf, rIsX, Option.elim_some, Option.elim_none, rSeq, rSet, rAsg, rRet, rRetN, rDrop, rIf, rSkip, rVar, rC, rOp, rUn, rTst, rTru, rNot, rAnd, rOr, rAndV, rOrV, rNotV, rIfE, rChain, rCons, rNil, rTup, rLst, rLstO, rCB, rLM, rSM, rSl, rPart, rNoPart, rAll, rRng1, rRng2, rFor, rCall, rAug, rSetIx, rLenSet, rFmt, rJoined, rJs, rLc, rLcO, rFrz, setAll, rYes, rNever, wipeN, nvs, enD, turnD, gNe, gLt, gLe, gGt, gGe, gIn, gNotIn, gIs, gIsNot, gMod, gFdiv, gPow, gAppend, gPop, gPopAt, gClear, gReverse, gExtend, gJoin, gSplit, nm_T, tp_T, at_0, at_1, at_2, at_3, at_4, at_5, at_6, at_7, ix_0, ix_1, ix_2, ix_3, ix_4, List.map_cons, List.map_nil, List.length_cons, List.length_nil, List.replicate, List.cons_append, List.nil_append, List.getElem?_cons_zero, List.getElem?_cons_succ, List.set_cons_zero, List.set_cons_succ, Option.some.injEq, exists_eq_left', exists_eq_left, exists_and_left, D.int.injEq, D.str.injEq, D.bl.injEq, D.ref.injEq, D.tup.injEq, D.lst.injEq, MO.lst.injEq, List.cons.injEq, and_true, true_and, if_true, if_false, Bool.false_eq_true, Nat.reduceSub, Nat.reduceAdd, reduceIte, reduceCtorEq, mset_same, mset_mset, Bool.not_true, Bool.not_false, imp_self, implies_true, not_false_eq_true, forall_const, ev0, ev1, ev2, ev3, ev4, ev5, ev6, ev7, ev8, ev9, ev10, ev11, ev12, ev13, ev14, ev15, ev16, ev17, ev18, ev19, ev20, ev21, ev22, ev23, ev24, ev25, ev26, ev27, ev28, ev29, ev30, ev31, ev32, ev33, ev34, ev35, ev36, ev37, ev38, ev39, ev40, ev41, ev42, ev43, ev44, ev45, ev46, ev47, ev48, ev49, ev50, ev51, ev52, ev53, ev54, ev55, ev56, ev57, ev58, ev59, ev60, ev61, ev62, ev63, ev64, ev65, ev66, ev67, ev68, ev69, ev70, ev71, ev72, ev73, ev74, ev75, ev76, ev77, ev78, ev79, ev80, ev81, ev82, ev83, ev84, ev85, ev86, ev87, ev88, ev89, ev90, ev91, ev92, ev93, ev94, ev95, ev96, ev97, ev98, ev99, ev100, ev101, ev102, ev103, ev104, ev105, ev106, ev107, ev108, ev109, ev110, ev111, ev112, ev113, ev114, ev115, ev116, ev117, ev118, ev119, ev120, ev121, ev122, ev123, ev124, ev125, ev126, ev127, ev128, ev129, ev130, ev131, ev132, ev133, ev134, ev135, ev136, ev137, ev138, ev139, ev140, ev141, ev142, ev143, ev144, ev145, ev146, ev147, ev148, ev149, ev150, ev151, ev152, ev153, ev154, ev155, ev156, ev157, ev158, ev159, ev160, ev161, ev162])
local macro_rules | `(tactic| walk_at "rq") => `(tactic| simp only [rSetT, rDct0T, rDct1T, rDc, rLcG, rbClause, rbEmit, rZip2, rZip3, rCallO, gLenD, gLenO, gMaxL, gSortL, gSortLO, rFld, rSetF, rMeth, rMake, rFrzI, rProp, rIsC, rRev, rAllK, rLcK, rLcKO, ew0, ew1, ew2, ew3, ew4, ew5, ew6, rRaise, rTry, xCls, enO, setO, rXf, rIsX, Option.elim_some, Option.elim_none, rSeq, rSet, rAsg, rRet, rRetN, rDrop, rIf, rSkip, rVar, rC, rOp, rUn, rTst, rTru, rNot, rAnd, rOr, rAndV, rOrV, rNotV, rIfE, rChain, rCons, rNil, rTup, rLst, rLstO, rCB, rLM, rSM, rSl, rPart, rNoPart, rAll, rRng1, rRng2, rFor, rCall, rAug, rSetIx, rLenSet, rFmt, rJoined, rJs, rLc, rLcO, rFrz, setAll, rYes, rNever, wipeN, nvs, enD, turnD, gNe, gLt, gLe, gGt, gGe, gIn, gNotIn, gIs, gIsNot, gMod, gFdiv, gPow, gAppend, gPop, gPopAt, gClear, gReverse, gExtend, gJoin, gSplit, nm_T, tp_T, at_0, at_1, at_2, at_3, at_4, at_5, at_6, at_7, ix_0, ix_1, ix_2, ix_3, ix_4, List.map_cons, List.map_nil, List.length_cons, List.length_nil, List.replicate, List.cons_append, List.nil_append, List.getElem?_cons_zero, List.getElem?_cons_succ, List.set_cons_zero, List.set_cons_succ, Option.some.injEq, exists_eq_left', exists_eq_left, exists_and_left, D.int.injEq, D.str.injEq, D.bl.injEq, D.ref.injEq, D.tup.injEq, D.lst.injEq, MO.lst.injEq, List.cons.injEq, and_true, true_and, if_true, if_false, Bool.false_eq_true, Nat.reduceSub, Nat.reduceAdd, reduceIte, reduceCtorEq, mset_same, mset_mset, Bool.not_true, Bool.not_false, imp_self, implies_true, not_false_eq_true, forall_const, ev0, ev1, ev2, ev3, ev4, ev5, ev6, ev7, ev8, ev9, ev10, ev11, ev12, ev13, ev14, ev15, ev16, ev17, ev18, ev19, ev20, ev21, ev22, ev23, ev24, ev25, ev26, ev27, ev28, ev29, ev30, ev31, ev32, ev33, ev34, ev35, ev36, ev37, ev38, ev39, ev40, ev41, ev42, ev43, ev44, ev45, ev46, ev47, ev48, ev49, ev50, ev51, ev52, ev53, ev54, ev55, ev56, ev57, ev58, ev59, ev60, ev61, ev62, ev63, ev64, ev65, ev66, ev67, ev68, ev69, ev70, ev71, ev72, ev73, ev74, ev75, ev76, ev77, ev78, ev79, ev80, ev81, ev82, ev83, ev84, ev85, ev86, ev87, ev88, ev89, ev90, ev91, ev92, ev93, ev94, ev95, ev96, ev97, ev98, ev99, ev100, ev101, ev102, ev103, ev104, ev105, ev106, ev107, ev108, ev109, ev110, ev111, ev112, ev113, ev114, ev115, ev116, ev117, ev118, ev119, ev120, ev121, ev122, ev123, ev124, ev125, ev126, ev127, ev128, ev129, ev130, ev131, ev132, ev133, ev134, ev135, ev136, ev137, ev138, ev139, ev140, ev141, ev142, ev143, ev144, ev145, ev146, ev147, ev148, ev149, ev150, ev151, ev152, ev153, ev154, ev155, ev156, ev157, ev158, ev159, ev160, ev161, ev162, Int.reduceEq, Int.reduceNe, Int.reduceLT, Int.reduceLE, Int.reduceNeg, decide_true, decide_false])
def N__law_row_right : List Str := ["_law_bag_here", "_law_book_here", "_law_plain", "_law_row_here", "_law_before", "_law_due", "_law_alone", "_law_question", "_law_shown", "_law_right"]
def rd__law_row_right : RS := rSeq (rSet (rCall sp__law_breaches (rCons (rVar 2) (rCons (rVar 4) (rCons (rVar 3) (rNil))))) 5)
  (rSeq (rSet (rCall sp__law_breaches (rCons (rVar 2) (rCons (rC (.str [])) (rCons (rVar 3) (rNil))))) 6)
  (rSeq (rFor (rAll (rCall sp__law_mixed (rCons (rVar 0) (rCons (rLst (rCons (rC (.int 0)) (rCons (rC (.int 1)) (rCons (rC (.int 2)) (rCons (rC (.int 3)) (rCons (rC (.int 4)) (rCons (rC (.int 0)) (rNil)))))))) (rNil))))) (.nm 7) (rSeq (rIf (rTst (rOp gEq (rVar 7) (rC (.int 0)))) (rSeq (rSet (rMeth "Book" "breaches" sp_Book_breaches [] (rVar 1) (rCons (rVar 3) (rCons (rVar 4) (rNil)))) 8)
  (rSeq (rIf (rTst (rOp gNe (rVar 8) (rVar 5))) (rRet (rC (.bl false))) (rSkip))
  (rDrop (rLM gAppend (rVar 8) (rCons (rTup (rCons (rC (.int 0)) (rCons (rC (.int 9)) (rNil)))) (rNil)))))) (rSkip))
  (rSeq (rIf (rAnd (rTst (rOp gEq (rVar 7) (rC (.int 1)))) (rTst (rOp gNe (rMeth "Book" "breaches" sp_Book_breaches [.str []] (rVar 1) (rCons (rVar 3) (rNil))) (rVar 6)))) (rRet (rC (.bl false))) (rSkip))
  (rSeq (rIf (rAnd (rTst (rOp gEq (rVar 7) (rC (.int 2)))) (rTst (rOp gNe (rMeth "Book" "keeps" sp_Book_keeps [] (rVar 1) (rCons (rVar 3) (rCons (rVar 4) (rNil)))) (rOp gEq (rVar 5) (rLst (rNil)))))) (rRet (rC (.bl false))) (rSkip))
  (rSeq (rIf (rTst (rOp gEq (rVar 7) (rC (.int 3)))) (rSeq (rSet (rOp gEq (rVar 6) (rLst (rNil))) 9)
  (rIf (rOr (rTst (rOp gNe (rMeth "Book" "keeps" sp_Book_keeps [.str []] (rVar 1) (rCons (rVar 3) (rNil))) (rVar 9))) (rTst (rOp gNe (rCallO "Book" sp_Book___call__ (rVar 1) (rCons (rVar 3) (rNil))) (rVar 9)))) (rRet (rC (.bl false))) (rSkip))) (rSkip))
  (rIf (rAnd (rTst (rOp gEq (rVar 7) (rC (.int 4)))) (rTst (rOp gNe (rMeth "Book" "counts" sp_Book_counts [] (rVar 1) (rCons (rVar 3) (rNil))) (rOp gIx (rCall sp__law_stand (rCons (rVar 2) (rCons (rVar 3) (rNil)))) (rC (.int 1)))))) (rRet (rC (.bl false))) (rSkip)))))))
  (rRet (rC (.bl true)))))

def sp__law_row_right : SpD := fun ds m q _ => ∃ b Ls kvs R rs bs, ds = [.ref b, bookX Ls kvs, .lst (Ls.map triX), .str rs, .str bs] ∧ m b = some (.inv Bag) ∧ BookOk Ls kvs R ∧ isRowC rs = true ∧ isRowC bs = true ∧ q (.bl true) m
theorem rl__law_row_right : ∀ ds m q xf, sp__law_row_right ds m q xf → ds.length = ["_law_bag_here", "_law_book_here", "_law_plain", "_law_row_here", "_law_before"].length := fun ds m q xf ⟨_, _, _, _, _, _, e, _⟩ => by rw [e]; rfl
theorem ne_ref {p : Addr} {ds : List D} {m : Mem} {q : QD} (h : m p = some (.lst ds)) (hf : fl 60 (.lst ds) = true) (k : q (.bl false) m) : gEqB (fun b => !b) (.ref p) (.lst ds) m q := by
  have e : seen (.ref p) m = .lst ds := by
    show moSeen _ (m p) = _
    rw [h]
    rfl
  show fl 60 (seen (.ref p) m) = true ∧ fl 60 (.lst ds) = true ∧ q (.bl (!(eqD (seen (.ref p) m) (.lst ds)))) m
  rw [e, eqD_refl hf]
  exact ⟨hf, hf, k⟩
theorem ne_tup {ds : List D} {m : Mem} {q : QD} (hf : fl 60 (.tup ds) = true) (k : q (.bl false) m) : gEqB (fun b => !b) (.tup ds) (.tup ds) m q := by
  show fl 60 (.tup ds) = true ∧ fl 60 (.tup ds) = true ∧ q (.bl (!(eqD (.tup ds) (.tup ds)))) m
  rw [eqD_refl hf]
  exact ⟨hf, hf, k⟩
theorem ne_bl {a : Bool} {m : Mem} {q : QD} (k : q (.bl false) m) : gEqB (fun b => !b) (.bl a) (.bl a) m q := by
  cases a <;> exact k
theorem row_yes {rs : List Nat} {P : Prop} (h : isRowC rs = true) : isRowD (.str rs) = false → P := fun e => by
  have : isRowC rs = false := e
  rw [h] at this
  cases this
theorem bre_len {Ls : List Lim} (h : Ls.length ≤ 4) : ∀ (s : Std) (i : Nat) (us : List Nat), (breL Ls s i us).length ≤ 4 * us.length
  | _, _, [] => Nat.le_refl _
  | s, i, u :: us => by
    rw [breL, List.length_append, List.length_map, List.length_cons]
    have h1 := brok_len h (capL Ls) s u
    have h2 := bre_len h (goalL Ls (capL Ls) s u) (i + 1) us
    omega
theorem rp__law_row_right : ∀ ds m q xf, sp__law_row_right ds m q xf → rd__law_row_right (xdD xf) (enD q) (nvs N__law_row_right ds) m := by
  rintro ds m q xf ⟨b, Ls, kvs, R, rs, bs, rfl, hb, B, hr, hbs, k⟩
  have hz : sizeLine = 16777216 := sizeLine_eq
  unfold rd__law_row_right N__law_row_right
  walk_at "rd"
  refine ⟨Ls, bs, rs, rfl, B.good, B.len.2, hbs, hr, ?_⟩
  refine ⟨Ls, [], rs, rfl, B.good, B.len.2, rfl, hr, ?_⟩
  generalize ed : breL Ls (runL Ls (freshL Ls) bs) 0 rs = due
  generalize ea : breL Ls (runL Ls (freshL Ls) []) 0 rs = alone
  refine ⟨by omega, b, _, rfl, hb, by decide, fun ys hp P hP => ?_⟩
  walk_at "rd"
  rw [mdel_mset hP]
  have hys : ∀ y ∈ ys, y = .int 0 ∨ y = .int 1 ∨ y = .int 2 ∨ y = .int 3 ∨ y = .int 4 := fun y hy => by
    have := hp.mem_iff.mp hy
    simp at this
    rcases this with h | h | h | h | h | h <;> simp [h]
  refine for_step (fun xs n m' => ∃ y7 y8 y9, (∀ y ∈ xs, y ∈ ys) ∧ Sub m m' ∧ n = [some (.ref b), some (bookX Ls kvs), some (.lst (Ls.map triX)), some (.str rs), some (.str bs), some (.lst (due.map breX)), some (.lst (alone.map breX)), y7, y8, y9]) ?_ ?_ _ _ _ ⟨_, _, _, fun _ h => h, Sub.refl m, rfl⟩
  · rintro n m' ⟨y7, y8, y9, _, hsub, rfl⟩
    walk_at "rd"
    exact rt_sub hsub k
  · rintro x xs n m' ⟨y7, y8, y9, hx, hsub, rfl⟩ kk hk
    have hnext : ∀ m2 y7 y8 y9, Sub m m2 → kk [some (.ref b), some (bookX Ls kvs), some (.lst (Ls.map triX)), some (.str rs), some (.str bs), some (.lst (due.map breX)), some (.lst (alone.map breX)), y7, y8, y9] m2 := fun m2 y7 y8 y9 h => hk _ _ ⟨_, _, _, fun y hy => hx y (List.mem_cons_of_mem _ hy), h, rfl⟩
    rcases hys x (hx x List.mem_cons_self) with rfl | rfl | rfl | rfl | rfl
    · walk_at "rq"
      refine ⟨_, rfl, rfl, Ls, kvs, R, _, _, rfl, B, any_row hr, any_row hbs, fun rs' bs' e1 e2 _ _ p hp => ?_, row_yes hr, fun _ => row_yes hbs⟩
      cases e1
      cases e2
      rw [ed]
      refine ne_ref mset_same (bre_fl due) ⟨_, rfl, ?_⟩
      rw [if_neg (by decide)]
      refine ⟨⟨_, by show moLst _ = _; rw [mset_same]; rfl⟩, by omega, p, rfl, _, mset_same, ?_, ?_⟩
      · rw [List.length_map, ← ed]
        have := bre_len B.len.2 (runL Ls (freshL Ls) bs) 0 rs
        have := row_len hr
        omega
      · rw [mset_mset]
        exact hnext _ _ _ _ (hsub.add (hsub.none hp))
    · walk_at "rq"
      refine ⟨_, rfl, rfl, Ls, kvs, R, _, _, rfl, B, any_row hr, any_row rfl, fun rs' bs' e1 e2 _ _ p hp => ?_, row_yes hr, fun _ => row_yes rfl⟩
      cases e1
      cases e2
      rw [ea]
      refine ne_ref mset_same (bre_fl alone) ⟨_, rfl, ?_⟩
      rw [if_neg (by decide)]
      exact hnext _ _ _ _ (hsub.add (hsub.none hp))
    · walk_at "rq"
      refine ⟨_, rfl, rfl, Ls, kvs, R, _, _, rfl, B, any_row hr, any_row hbs, fun rs' bs' e1 e2 _ _ => ?_, row_yes hr, fun _ => row_yes hbs⟩
      cases e1
      cases e2
      rw [ed, bre_nil]
      refine ⟨by omega, bre_fl due, rfl, ne_bl ⟨_, rfl, ?_⟩⟩
      rw [if_neg (by decide)]
      exact hnext _ _ _ _ hsub
    · walk_at "rq"
      refine ⟨by omega, bre_fl alone, rfl, _, rfl, rfl, Ls, kvs, R, _, _, rfl, B, any_row hr, any_row rfl, fun rs' bs' e1 e2 _ _ => ?_, row_yes hr, fun _ => row_yes rfl⟩
      cases e1
      cases e2
      rw [ea, bre_nil]
      refine ne_bl ⟨_, rfl, ?_⟩
      rw [if_neg (by decide)]
      refine ⟨_, rfl, ⟨_, rfl⟩, Ls, kvs, R, _, rfl, B, any_row hr, fun rs' e1 _ => ?_, row_yes hr⟩
      cases e1
      show gEqB _ (.bl (breL Ls (runL Ls (freshL Ls) []) 0 rs).isEmpty) _ _ _
      rw [ea]
      refine ne_bl ⟨_, rfl, ?_⟩
      rw [if_neg (by decide)]
      exact hnext _ _ _ _ hsub
    · walk_at "rq"
      refine ⟨_, rfl, rfl, Ls, kvs, R, _, rfl, B, any_row hr, fun rs' e1 _ => ?_, row_yes hr⟩
      cases e1
      refine ⟨Ls, rs, rfl, B.good, B.len.2, hr, ?_⟩
      unfold stdX
      walk_at "rd"
      refine ne_tup (fls_ints 59 _) ⟨_, rfl, ?_⟩
      rw [if_neg (by decide)]
      exact hnext _ _ _ _ hsub
end DL

namespace DL
open PySem PySem.Spec PyProof.Rows L2
/-! k16 -/
local macro_rules | `(tactic| walk_at "rd") => `(tactic| simp only [rSetT, rDct0T, rDct1T, rDc, rLcG, rbClause, rbEmit, rZip2, rZip3, rCallO, gLenD, gLenO, gMaxL, gSortL, gSortLO, rFld, rSetF, rMeth, rMake, rFrzI, rProp, rIsC, rRev, rAllK, rLcK, rLcKO, ew0, ew1, ew2, ew3, ew4, ew5, ew6, rRaise, rTry, xCls, enO, setO, rXf, rIsX, Option.elim_some, Option.elim_none, rSeq, rSet, rAsg, rRet, rRetN, rDrop, rIf, rSkip, rVar, rC, rOp, rUn, rTst, rTru, rNot, rAnd, rOr, rAndV, rOrV, rNotV, rIfE, rChain, rCons, rNil, rTup, rLst, rLstO, rCB, rLM, rSM, rSl, rPart, rNoPart, rAll, rRng1, rRng2, rFor, rCall, rAug, rSetIx, rLenSet, rFmt, rJoined, rJs, rLc, rLcO, rFrz, setAll, rYes, rNever, wipeN, nvs, enD, turnD, gNe, gLt, gLe, gGt, gGe, gIn, gNotIn, gIs, gIsNot, gMod, gFdiv, gPow, gAppend, gPop, gPopAt, gClear, gReverse, gExtend, gJoin, gSplit, nm_T, tp_T, at_0, at_1, at_2, at_3, at_4, at_5, at_6, at_7, ix_0, ix_1, ix_2, ix_3, ix_4, List.map_cons, List.map_nil, List.length_cons, List.length_nil, List.replicate, List.cons_append, List.nil_append, List.getElem?_cons_zero, List.getElem?_cons_succ, List.set_cons_zero, List.set_cons_succ, Option.some.injEq, exists_eq_left', exists_eq_left, exists_and_left, D.int.injEq, D.str.injEq, D.bl.injEq, D.ref.injEq, D.tup.injEq, D.lst.injEq, MO.lst.injEq, List.cons.injEq, and_true, true_and, if_true, if_false, Bool.false_eq_true, Nat.reduceSub, Nat.reduceAdd, reduceIte, reduceCtorEq, mset_same, mset_mset, Bool.not_true, Bool.not_false, imp_self, implies_true, not_false_eq_true, forall_const, ev0, ev1, ev2, ev3, ev4, ev5, ev6, ev7, ev8, ev9, ev10, ev11, ev12, ev13, ev14, ev15, ev16, ev17, ev18, ev19, ev20, ev21, ev22, ev23, ev24, ev25, ev26, ev27, ev28, ev29, ev30, ev31, ev32, ev33, ev34, ev35, ev36, ev37, ev38, ev39, ev40, ev41, ev42, ev43, ev44, ev45, ev46, ev47, ev48, ev49, ev50, ev51, ev52, ev53, ev54, ev55, ev56, ev57, ev58, ev59, ev60, ev61, ev62, ev63, ev64, ev65, ev66, ev67, ev68, ev69, ev70, ev71, ev72, ev73, ev74, ev75, ev76, ev77, ev78, ev79, ev80, ev81, ev82, ev83, ev84, ev85, ev86, ev87, ev88, ev89, ev90, ev91, ev92, ev93, ev94, ev95, ev96, ev97, ev98, ev99, ev100, ev101, ev102, ev103, ev104, ev105, ev106, ev107, ev108, ev109, ev110, ev111, ev112, ev113, ev114, ev115, ev116, ev117, ev118, ev119, ev120, ev121, ev122, ev123, ev124, ev125, ev126, ev127, ev128, ev129, ev130, ev131, ev132, ev133, ev134, ev135, ev136, ev137, ev138, ev139, ev140, ev141, ev142, ev143, ev144, ev145, ev146, ev147, ev148, ev149, ev150, ev151, ev152, ev153, ev154, ev155, ev156, ev157, ev158, ev159, ev160, ev161, ev162])
local macro_rules | `(tactic| walk_at "rq") => `(tactic| simp only [rSetT, rDct0T, rDct1T, rDc, rLcG, rbClause, rbEmit, rZip2, rZip3, rCallO, gLenD, gLenO, gMaxL, gSortL, gSortLO, rFld, rSetF, rMeth, rMake, rFrzI, rProp, rIsC, rRev, rAllK, rLcK, rLcKO, ew0, ew1, ew2, ew3, ew4, ew5, ew6, rRaise, rTry, xCls, enO, setO, rXf, rIsX, Option.elim_some, Option.elim_none, rSeq, rSet, rAsg, rRet, rRetN, rDrop, rIf, rSkip, rVar, rC, rOp, rUn, rTst, rTru, rNot, rAnd, rOr, rAndV, rOrV, rNotV, rIfE, rChain, rCons, rNil, rTup, rLst, rLstO, rCB, rLM, rSM, rSl, rPart, rNoPart, rAll, rRng1, rRng2, rFor, rCall, rAug, rSetIx, rLenSet, rFmt, rJoined, rJs, rLc, rLcO, rFrz, setAll, rYes, rNever, wipeN, nvs, enD, turnD, gNe, gLt, gLe, gGt, gGe, gIn, gNotIn, gIs, gIsNot, gMod, gFdiv, gPow, gAppend, gPop, gPopAt, gClear, gReverse, gExtend, gJoin, gSplit, nm_T, tp_T, at_0, at_1, at_2, at_3, at_4, at_5, at_6, at_7, ix_0, ix_1, ix_2, ix_3, ix_4, List.map_cons, List.map_nil, List.length_cons, List.length_nil, List.replicate, List.cons_append, List.nil_append, List.getElem?_cons_zero, List.getElem?_cons_succ, List.set_cons_zero, List.set_cons_succ, Option.some.injEq, exists_eq_left', exists_eq_left, exists_and_left, D.int.injEq, D.str.injEq, D.bl.injEq, D.ref.injEq, D.tup.injEq, D.lst.injEq, MO.lst.injEq, List.cons.injEq, and_true, true_and, if_true, if_false, Bool.false_eq_true, Nat.reduceSub, Nat.reduceAdd, reduceIte, reduceCtorEq, mset_same, mset_mset, Bool.not_true, Bool.not_false, imp_self, implies_true, not_false_eq_true, forall_const, ev0, ev1, ev2, ev3, ev4, ev5, ev6, ev7, ev8, ev9, ev10, ev11, ev12, ev13, ev14, ev15, ev16, ev17, ev18, ev19, ev20, ev21, ev22, ev23, ev24, ev25, ev26, ev27, ev28, ev29, ev30, ev31, ev32, ev33, ev34, ev35, ev36, ev37, ev38, ev39, ev40, ev41, ev42, ev43, ev44, ev45, ev46, ev47, ev48, ev49, ev50, ev51, ev52, ev53, ev54, ev55, ev56, ev57, ev58, ev59, ev60, ev61, ev62, ev63, ev64, ev65, ev66, ev67, ev68, ev69, ev70, ev71, ev72, ev73, ev74, ev75, ev76, ev77, ev78, ev79, ev80, ev81, ev82, ev83, ev84, ev85, ev86, ev87, ev88, ev89, ev90, ev91, ev92, ev93, ev94, ev95, ev96, ev97, ev98, ev99, ev100, ev101, ev102, ev103, ev104, ev105, ev106, ev107, ev108, ev109, ev110, ev111, ev112, ev113, ev114, ev115, ev116, ev117, ev118, ev119, ev120, ev121, ev122, ev123, ev124, ev125, ev126, ev127, ev128, ev129, ev130, ev131, ev132, ev133, ev134, ev135, ev136, ev137, ev138, ev139, ev140, ev141, ev142, ev143, ev144, ev145, ev146, ev147, ev148, ev149, ev150, ev151, ev152, ev153, ev154, ev155, ev156, ev157, ev158, ev159, ev160, ev161, ev162, Int.reduceEq, Int.reduceNe, Int.reduceLT, Int.reduceLE, Int.reduceNeg, decide_true, decide_false])
def N_law : List Str := ["_law_script", "_law_bag_here", "_law_plains", "_law_books", "_law_plain", "_law_rows", "_law_turn", "_law_row_here"]
def rd_law : RS := rSeq (rSet (rCall sp__law_bag (rCons (rVar 0) (rNil))) 1)
  (rSeq (rSet (rLst (rCons (rCall sp__law_book (rCons (rVar 1) (rCons (rC (.int 60)) (rNil)))) (rCons (rCall sp__law_book (rCons (rVar 1) (rCons (rC (.int 200)) (rNil)))) (rNil)))) 2)
  (rSeq (rSet (rLc (rAll (rVar 2)) (.nm 4) (rYes) (rCall sp__law_made (rCons (rVar 4) (rNil))) [4]) 3)
  (rSeq (rSet (rLstO (rCons (rCall sp__law_row (rCons (rVar 1) (rCons (rC (.int 30)) (rNil)))) (rCons (rCall sp__law_row (rCons (rVar 1) (rCons (rC (.int 30)) (rNil)))) (rCons (rCall sp__law_row (rCons (rVar 1) (rCons (rC (.int 9)) (rNil)))) (rCons (rC (.str [])) (rNil)))))) 5)
  (rSeq (rFzS 5 (rIf (rTst (rOp gEq (rCall sp__law_draw (rCons (rVar 1) (rCons (rC (.int 10)) (rNil)))) (rC (.int 0)))) (rSetIx (rVar 5) (rC (.int 2)) (rOp gMul (rOp gAdd (rCall sp__law_row (rCons (rVar 1) (rCons (rC (.int 20)) (rNil)))) (rC (.str [100, 119, 114]))) (rC (.int 80)))) (rSkip)))
  (rSeq (rFor (rAll (rLst (rCons (rC (.int 0)) (rCons (rC (.int 1)) (rCons (rC (.int 0)) (rNil)))))) (.nm 6) (rSeq (rIf (rTst (rOp gNe (rCB (gLenO "Book" sp_Book___len__) (rCons (rOp gIx (rVar 3) (rVar 6)) (rNil))) (rCB gLen (rCons (rOp gIx (rVar 2) (rVar 6)) (rNil))))) (rRet (rC (.bl false))) (rSkip))
  (rFor (rAll (rVar 5)) (.nm 7) (rIf (rNot (rTst (rCall sp__law_row_right (rCons (rVar 1) (rCons (rOp gIx (rVar 3) (rVar 6)) (rCons (rOp gIx (rVar 2) (rVar 6)) (rCons (rVar 7) (rCons (rCall sp__law_pick (rCons (rVar 1) (rCons (rVar 5) (rNil)))) (rNil))))))))) (rRet (rC (.bl false))) (rSkip)))))
  (rRet (rC (.bl true))))))))

def sp_law : SpD := fun ds m q _ => ∃ ns, ds = [.scr ns] ∧ ∀ m', q (.bl true) m'
theorem rl_law : ∀ ds m q xf, sp_law ds m q xf → ds.length = ["_law_script"].length := fun ds m q xf ⟨d, e, _⟩ => by rw [e]; rfl
theorem rep_len (w : List Nat) : ∀ n : Nat, (List.replicate n w).flatten.length = n * w.length
  | 0 => by simp
  | n + 1 => by
    rw [List.replicate_succ, List.flatten_cons, List.length_append, rep_len w n, Nat.succ_mul]
    omega
theorem str_row {rs : List Nat} (h : isRowC rs = true) (h2 : (rs.length : Int) ≤ 20) : isRowC (List.replicate 80 (rs ++ [100, 119, 114])).flatten = true := by
  have e := h
  unfold isRowC at h ⊢
  rw [Bool.and_eq_true] at h
  have hl : (List.replicate 80 (rs ++ [100, 119, 114])).flatten.length = 80 * (rs.length + 3) := by
    rw [rep_len, List.length_append]
    rfl
  rw [hl, decide_eq_true (by omega), Bool.true_and, List.all_eq_true]
  intro c hc
  obtain ⟨w, hw, hc⟩ := List.mem_flatten.mp hc
  rw [List.eq_of_mem_replicate hw] at hc
  rcases List.mem_append.mp hc with h3 | h3
  · exact List.all_eq_true.mp h.2 c h3
  · simp at h3
    rcases h3 with rfl | rfl | rfl <;> decide
theorem k16_tail {b : Addr} {m : Mem} {q : QD} {xf : XF} {Ls1 Ls2 : List Lim} {k1 k2 : List (D × D)} {R1 R2 : Std → Prop} {Rs : List (List Nat)} {x0 x4 : Option D} (hb : m b = some (.inv Bag)) (B1 : BookOk Ls1 k1 R1) (B2 : BookOk Ls2 k2 R2) (hr : ∀ r ∈ Rs, isRowC r = true) (h0 : 0 < Rs.length) (h1 : Rs.length < 1000000) (k : ∀ m', q (.bl true) m') :
    forD (.nm 6) (rSeq (rIf (rTst (rOp gNe (rCB (gLenO "Book" sp_Book___len__) (rCons (rOp gIx (rVar 3) (rVar 6)) (rNil))) (rCB gLen (rCons (rOp gIx (rVar 2) (rVar 6)) (rNil))))) (rRet (rC (.bl false))) (rSkip))
      (rFor (rAll (rVar 5)) (.nm 7) (rIf (rNot (rTst (rCall sp__law_row_right (rCons (rVar 1) (rCons (rOp gIx (rVar 3) (rVar 6)) (rCons (rOp gIx (rVar 2) (rVar 6)) (rCons (rVar 7) (rCons (rCall sp__law_pick (rCons (rVar 1) (rCons (rVar 5) (rNil)))) (rNil))))))))) (rRet (rC (.bl false))) (rSkip))))
      (xdD xf) [.int 0, .int 1, .int 0] { nx := rRet (rC (.bl true)) (xdD xf) { nx := fun x m2 => rtD q .non m2, rt := rtD q }, rt := rtD q }
      [x0, some (.ref b), some (.lst [.lst (Ls1.map triX), .lst (Ls2.map triX)]), some (.lst [bookX Ls1 k1, bookX Ls2 k2]), x4, some (.lst (Rs.map D.str)), none, none] m := by
  refine for_step (fun xs n m' => ∃ y6 y7, (∀ x ∈ xs, x = .int 0 ∨ x = .int 1) ∧ m' = m ∧ n = [x0, some (.ref b), some (.lst [.lst (Ls1.map triX), .lst (Ls2.map triX)]), some (.lst [bookX Ls1 k1, bookX Ls2 k2]), x4, some (.lst (Rs.map D.str)), y6, y7]) ?_ ?_ _ _ _ ⟨_, _, by simp, rfl, rfl⟩
  · rintro n m' ⟨y6, y7, _, rfl, rfl⟩
    walk_at "rd"
    exact rt_same (k _)
  · rintro x xs n m' ⟨y6, y7, hx, rfl, rfl⟩ kk hk
    have turn : ∀ (j : Int) (Ls : List Lim) (kvs : List (D × D)) (R : Std → Prop), x = .int j → BookOk Ls kvs R → atI [D.lst (Ls1.map triX), .lst (Ls2.map triX)] j = some (.lst (Ls.map triX)) → atI [bookX Ls1 k1, bookX Ls2 k2] j = some (bookX Ls kvs) → setT (.nm 6) x [x0, some (.ref b), some (.lst [.lst (Ls1.map triX), .lst (Ls2.map triX)]), some (.lst [bookX Ls1 k1, bookX Ls2 k2]), x4, some (.lst (Rs.map D.str)), y6, y7] fun n1 => (rSeq (rIf (rTst (rOp gNe (rCB (gLenO "Book" sp_Book___len__) (rCons (rOp gIx (rVar 3) (rVar 6)) (rNil))) (rCB gLen (rCons (rOp gIx (rVar 2) (rVar 6)) (rNil))))) (rRet (rC (.bl false))) (rSkip))
      (rFor (rAll (rVar 5)) (.nm 7) (rIf (rNot (rTst (rCall sp__law_row_right (rCons (rVar 1) (rCons (rOp gIx (rVar 3) (rVar 6)) (rCons (rOp gIx (rVar 2) (rVar 6)) (rCons (rVar 7) (rCons (rCall sp__law_pick (rCons (rVar 1) (rCons (rVar 5) (rNil)))) (rNil))))))))) (rRet (rC (.bl false))) (rSkip)))) (xdD xf) ⟨kk, rtD q, rRet (rC (.bl true)) (xdD xf) { nx := fun x m2 => rtD q .non m2, rt := rtD q }, kk⟩ n1 m' := fun j Ls kvs R ex B e1 e2 => by
      subst ex
      walk_at "rd"
      refine ⟨_, e2, _, rfl, Ls, kvs, rfl, _, rfl, by omega, by have := B.len.2; omega, _, e1, ?_⟩
      walk_at "rd"
      rw [List.length_map, decide_eq_true rfl, if_neg (by decide)]
      refine for_step (fun xs n m2 => ∃ rest y7, xs = rest.map D.str ∧ (∀ r ∈ rest, isRowC r = true) ∧ m2 = m' ∧ n = [x0, some (.ref b), some (.lst [.lst (Ls1.map triX), .lst (Ls2.map triX)]), some (.lst [bookX Ls1 k1, bookX Ls2 k2]), x4, some (.lst (Rs.map D.str)), some (.int j), y7]) ?_ ?_ _ _ _ ⟨Rs, _, rfl, hr, rfl, rfl⟩
      · rintro n m2 ⟨rest, y7, _, _, rfl, rfl⟩
        exact hk _ _ ⟨_, _, fun y hy => hx y (List.mem_cons_of_mem _ hy), rfl, rfl⟩
      · rintro x xs n m2 ⟨rest, y7, er, hrest, rfl, rfl⟩ kk2 hk2
        cases rest with
        | nil => cases er
        | cons r rest =>
          injection er with e3 e4
          subst e3 e4
          walk_at "rd"
          refine ⟨_, e2, _, e1, b, _, Rs.map D.str, rfl, hb, rfl, by rw [List.length_map]; exact h0, by rw [List.length_map]; exact h1, fun y hy => ?_⟩
          obtain ⟨bs, hbs, rfl⟩ := List.mem_map.mp hy
          refine ⟨b, Ls, kvs, R, r, bs, rfl, hb, B, hrest r List.mem_cons_self, hr bs hbs, _, rfl, ?_⟩
          rw [if_neg (by decide)]
          exact hk2 _ _ ⟨rest, _, rfl, fun z hz => hrest z (List.mem_cons_of_mem _ hz), rfl, rfl⟩
    rcases hx x List.mem_cons_self with rfl | rfl
    · exact turn 0 Ls1 k1 R1 rfl B1 at_0 at_0
    · exact turn 1 Ls2 k2 R2 rfl B2 at_1 at_1
theorem rp_law : ∀ ds m q xf, sp_law ds m q xf → rd_law (xdD xf) (enD q) (nvs N_law ds) m := by
  rintro ds m q xf ⟨ns, rfl, k⟩
  have hz : sizeLine = 16777216 := sizeLine_eq
  unfold rd_law N_law rFzS
  walk_at "rd"
  refine ⟨ns, rfl, fun b _ => ?_⟩
  have hb : mset m b (.inv Bag) b = some (.inv Bag) := mset_same
  generalize mset m b (.inv Bag) = m1 at hb ⊢
  refine ⟨b, 60, rfl, hb, by decide, by decide, fun Ls1 S1 g1 l1 u1 c1 n1 => ⟨b, 200, rfl, hb, by decide, by decide, fun Ls2 S2 g2 l2 u2 c2 n2 => ⟨by omega, ?_⟩⟩⟩
  have n1 : S1.length ≤ 300 := by
    have : max 60 15 = 60 := by decide
    omega
  have n2 : S2.length ≤ 300 := by
    have : max 200 15 = 200 := by decide
    omega
  have e4 : List.length (List.map triX Ls1) = Ls1.length := List.length_map ..
  have e5 : List.length (List.map triX Ls2) = Ls2.length := List.length_map ..
  intro P hP
  simp only [compD]
  walk_at "rd"
  refine ⟨Ls1, S1, rfl, g1, l1, u1, c1, n1, fun vis1 _ B1 => ⟨[], mset_same, by simp; omega, ?_⟩⟩
  rw [mset_mset]
  refine ⟨Ls2, S2, rfl, g2, l2, u2, c2, n2, fun vis2 _ B2 => ⟨_, mset_same, by simp; omega, ?_⟩⟩
  rw [mset_mset, mdel_mset hP]
  refine ⟨b, 30, rfl, hb, by decide, by decide, fun ra ha la => ⟨b, 30, rfl, hb, by decide, by decide, fun rb hrb lb => ⟨b, 9, rfl, hb, by decide, by decide, fun rc hc lc => ⟨by omega, fun p hp => ?_⟩⟩⟩⟩
  have hbp : ∀ o, mset m1 p o b = some (.inv Bag) := fun o => by rw [mset_ne (mne hb hp)]; exact hb
  refine ⟨b, 10, rfl, hbp _, by decide, by decide, fun t _ _ => ?_⟩
  walk_at "rd"
  refine ite2 (fun _ => ?_) fun _ => ?_
  · refine ⟨b, 20, rfl, hbp _, by decide, by decide, fun rd hd ld => ?_⟩
    walk_at "rd"
    have hl3 : (rd ++ [100, 119, 114]).length = rd.length + 3 := by
      rw [List.length_append]
      rfl
    refine ⟨by omega, ⟨by decide, by decide, by rw [hl3]; show (rd.length + 3) * 80 ≤ _; omega⟩, 2, rfl, by omega, ?_⟩
    rw [mdel_mset hp]
    refine k16_tail (Rs := [ra, rb, reps 80 (rd ++ [100, 119, 114]), []]) hb B1 B2 (fun r h => ?_) (Nat.succ_pos _) (show 4 < 1000000 by decide) k
    simp only [List.mem_cons, List.not_mem_nil, or_false] at h
    rcases h with rfl | rfl | rfl | rfl
    · exact ha
    · exact hrb
    · exact str_row hd ld
    · rfl
  · rw [mdel_mset hp]
    refine ⟨by omega, k16_tail (Rs := [ra, rb, rc, []]) hb B1 B2 (fun r h => ?_) (Nat.succ_pos _) (show 4 < 1000000 by decide) k⟩
    simp only [List.mem_cons, List.not_mem_nil, or_false] at h
    rcases h with rfl | rfl | rfl | rfl
    · exact ha
    · exact hrb
    · exact hc
    · rfl
end DL

namespace DL
open PySem PySem.Spec PyProof.Rows L2
/-! ### the text of the law -/
def topS (i : Nat) : Stmt := PySem.Challenge.pw_restbooks_k16_rows_counted.main.body.getD i (.Pass ⟨0, 0, 0, 0⟩)
structure LawEnv (K : PySem.W.Frag) (mg : Str → Option Value) : Prop where
  nob : ∀ x ∈ (["zip", "len", "int", "isinstance", "bool", "str", "all", "list", "abs", "max", "tuple", "min", "set", "range", "any", "sorted"] : List Str), mg x = none
  c_MOST_UNITS : ∃ t, mg "MOST_UNITS" = some (.int 2000 t)
  c_LETTERS : ∃ t, mg "LETTERS" = some (.str ⟨([100, 119, 97, 114] : List Nat).toArray⟩ t)
  c_MOST_LIMITS : ∃ t, mg "MOST_LIMITS" = some (.int 4 t)
  c_MOST_STANDS : ∃ t, mg "MOST_STANDS" = some (.int 300 t)
  c_LONGEST_REST : ∃ t, mg "LONGEST_REST" = some (.int 12 t)
  c_GREATEST_MOST : ∃ t, mg "GREATEST_MOST" = some (.int 40 t)
  tab : Tab K
  f_Limit_ends : FldD K "Limit" "ends"
  f_Book_rules : FldD K "Book" "rules"
  f_Limit_bound : FldD K "Limit" "bound"
  f_Limit_letters : FldD K "Limit" "letters"
  f_Book_cap : FldD K "Book" "cap"
  f_Book_first : FldD K "Book" "first"
  f_Book_steps : FldD K "Book" "steps"
  i_Limit : IsD K mg "Limit"
/-! ### every def keeps its word -/
abbrev si_BadRow : Stmt := inClass (topS 3) 0
theorem sci_BadRow : FnScope ["self", "given"] ["self", "given"] (defScope si_BadRow) := ⟨rfl, rfl, rfl, by decide +kernel, rfl, by decide +kernel, by decide +kernel⟩
theorem okx_BadRow {P : Program} {w : World} {K : PySem.W.Frag} {mg : Str → Option Value} {base : Heap} (B : BaseK K mg "RestError") {f : Addr} {fd : FuncData} (F : Fun K "__init__" "BadRow.__init__" si_BadRow f fd) : FnOk P w K mg base (L2.CX P w) 1 f fd ["self", "given"] (spInit K) := by
  refine F.okX sci_BadRow len_init fun cdv A outer s H vs Q E hr h => ?_
  obtain ⟨a, C, y, rfl, T, hf, ha, k⟩ := h
  refine ⟨_, pss_cons (ps_expr (pe_base B (by rfl) (by decide) (pa_cons (pv 0) (pa_cons pe_str pa_nil)))) (pss_one (ps_ost (pv 0) (pv 1))), ?_⟩
  exact ⟨_, rfl, a, C, _, rfl, by simp, T, ha, _, rfl, _, rfl, a, C, rfl, T, hf, .inl ⟨ha, fun dx hdx ne => k dx hdx ne⟩⟩
abbrev si_BadKinds : Stmt := inClass (topS 4) 0
theorem sci_BadKinds : FnScope ["self", "given"] ["self", "given"] (defScope si_BadKinds) := ⟨rfl, rfl, rfl, by decide +kernel, rfl, by decide +kernel, by decide +kernel⟩
theorem okx_BadKinds {P : Program} {w : World} {K : PySem.W.Frag} {mg : Str → Option Value} {base : Heap} (B : BaseK K mg "RestError") {f : Addr} {fd : FuncData} (F : Fun K "__init__" "BadKinds.__init__" si_BadKinds f fd) : FnOk P w K mg base (L2.CX P w) 1 f fd ["self", "given"] (spInit K) := by
  refine F.okX sci_BadKinds len_init fun cdv A outer s H vs Q E hr h => ?_
  obtain ⟨a, C, y, rfl, T, hf, ha, k⟩ := h
  refine ⟨_, pss_cons (ps_expr (pe_base B (by rfl) (by decide) (pa_cons (pv 0) (pa_cons pe_str pa_nil)))) (pss_one (ps_ost (pv 0) (pv 1))), ?_⟩
  exact ⟨_, rfl, a, C, _, rfl, by simp, T, ha, _, rfl, _, rfl, a, C, rfl, T, hf, .inl ⟨ha, fun dx hdx ne => k dx hdx ne⟩⟩
abbrev si_BadLimits : Stmt := inClass (topS 7) 0
theorem sci_BadLimits : FnScope ["self", "given"] ["self", "given"] (defScope si_BadLimits) := ⟨rfl, rfl, rfl, by decide +kernel, rfl, by decide +kernel, by decide +kernel⟩
theorem okx_BadLimits {P : Program} {w : World} {K : PySem.W.Frag} {mg : Str → Option Value} {base : Heap} (B : BaseK K mg "RestError") {f : Addr} {fd : FuncData} (F : Fun K "__init__" "BadLimits.__init__" si_BadLimits f fd) : FnOk P w K mg base (L2.CX P w) 1 f fd ["self", "given"] (spInit K) := by
  refine F.okX sci_BadLimits len_init fun cdv A outer s H vs Q E hr h => ?_
  obtain ⟨a, C, y, rfl, T, hf, ha, k⟩ := h
  refine ⟨_, pss_cons (ps_expr (pe_base B (by rfl) (by decide) (pa_cons (pv 0) (pa_cons pe_str pa_nil)))) (pss_one (ps_ost (pv 0) (pv 1))), ?_⟩
  exact ⟨_, rfl, a, C, _, rfl, by simp, T, ha, _, rfl, _, rfl, a, C, rfl, T, hf, .inl ⟨ha, fun dx hdx ne => k dx hdx ne⟩⟩
abbrev si_BadMost : Stmt := inClass (topS 5) 0
theorem sci_BadMost : FnScope ["self", "given"] ["self", "given"] (defScope si_BadMost) := ⟨rfl, rfl, rfl, by decide +kernel, rfl, by decide +kernel, by decide +kernel⟩
theorem okx_BadMost {P : Program} {w : World} {K : PySem.W.Frag} {mg : Str → Option Value} {base : Heap} (B : BaseK K mg "RestError") {f : Addr} {fd : FuncData} (F : Fun K "__init__" "BadMost.__init__" si_BadMost f fd) : FnOk P w K mg base (L2.CX P w) 1 f fd ["self", "given"] (spInit K) := by
  refine F.okX sci_BadMost len_init fun cdv A outer s H vs Q E hr h => ?_
  obtain ⟨a, C, y, rfl, T, hf, ha, k⟩ := h
  refine ⟨_, pss_cons (ps_expr (pe_base B (by rfl) (by decide) (pa_cons (pv 0) (pa_cons pe_str pa_nil)))) (pss_one (ps_ost (pv 0) (pv 1))), ?_⟩
  exact ⟨_, rfl, a, C, _, rfl, by simp, T, ha, _, rfl, _, rfl, a, C, rfl, T, hf, .inl ⟨ha, fun dx hdx ne => k dx hdx ne⟩⟩
abbrev si_BadWays : Stmt := inClass (topS 6) 0
theorem sci_BadWays : FnScope ["self", "given"] ["self", "given"] (defScope si_BadWays) := ⟨rfl, rfl, rfl, by decide +kernel, rfl, by decide +kernel, by decide +kernel⟩
theorem okx_BadWays {P : Program} {w : World} {K : PySem.W.Frag} {mg : Str → Option Value} {base : Heap} (B : BaseK K mg "RestError") {f : Addr} {fd : FuncData} (F : Fun K "__init__" "BadWays.__init__" si_BadWays f fd) : FnOk P w K mg base (L2.CX P w) 1 f fd ["self", "given"] (spInit K) := by
  refine F.okX sci_BadWays len_init fun cdv A outer s H vs Q E hr h => ?_
  obtain ⟨a, C, y, rfl, T, hf, ha, k⟩ := h
  refine ⟨_, pss_cons (ps_expr (pe_base B (by rfl) (by decide) (pa_cons (pv 0) (pa_cons pe_str pa_nil)))) (pss_one (ps_ost (pv 0) (pv 1))), ?_⟩
  exact ⟨_, rfl, a, C, _, rfl, by simp, T, ha, _, rfl, _, rfl, a, C, rfl, T, hf, .inl ⟨ha, fun dx hdx ne => k dx hdx ne⟩⟩
abbrev s_Limit_marks_behind : Stmt := inClass (topS 25) 6
theorem sc_Limit_marks_behind : FnScope N_Limit_marks_behind ["self", "marks", "unit", "rest"] (defScope s_Limit_marks_behind) := ⟨rfl, rfl, rfl, by decide +kernel, rfl, by decide +kernel, by decide +kernel⟩
theorem ok_Limit_marks_behind {P : Program} {w : World} {K : PySem.W.Frag} {mg : Str → Option Value} {base : Heap} (E : LawEnv K mg) {f : Addr} {fd : FuncData} (F : Fun K "marks_behind" "Limit.marks_behind" s_Limit_marks_behind f fd) : FnD P w K mg base 1 f fd ["self", "marks", "unit", "rest"] sp_Limit_marks_behind := by
  have nob := E.nob
  refine fnS F sc_Limit_marks_behind rl_Limit_marks_behind fun cdv A outer s H Ex hr => ⟨rd_Limit_marks_behind, ?_, rp_Limit_marks_behind⟩
  have nd := sc_Limit_marks_behind.nd
  have po : PassesOwn (model P w) (cxOf (L2.CX P w) P w K mg base N_Limit_marks_behind "Limit.marks_behind" (defScope s_Limit_marks_behind) f cdv A outer s H Ex).A (cxOf (L2.CX P w) P w K mg base N_Limit_marks_behind "Limit.marks_behind" (defScope s_Limit_marks_behind) f cdv A outer s H Ex).env (cxOf (L2.CX P w) P w K mg base N_Limit_marks_behind "Limit.marks_behind" (defScope s_Limit_marks_behind) f cdv A outer s H Ex).xe := passes_of rfl
  have tk : Takes (cxOf (L2.CX P w) P w K mg base N_Limit_marks_behind "Limit.marks_behind" (defScope s_Limit_marks_behind) f cdv A outer s H Ex) (WF Ex) := takes_of rfl rfl rfl rfl
  exact ds_cons (ds_set (i := 4) nd rfl (by first | exact Or.inl rfl | exact Or.inr rfl) (de_lstO (da_nil)))
    (ds_cons (ds_for po rfl (di_zip2 (by rfl) (nob "zip" (by decide)) (da_cons (de_fld E.f_Limit_ends (dv 0)) (da_cons (dv 1) (da_nil)))) (dg_tp rfl (dgs_cons (i := 5) nd rfl (by first | exact Or.inl rfl | exact Or.inr rfl) (dgs_cons (i := 6) nd rfl (by first | exact Or.inl rfl | exact Or.inr rfl) (dgs_nil)))) (ds_one (ds_if (DW.t (dw_and (dt_cmp (odEq hr.units) (dv 6) (de_int) (nomark _)) (dw_and1 (dt_cmp (odNe hr.units) (dv 2) (de_str [114]) (nomark _))))) (ds_one (ds_expr (de_lm PySem.F.slot_list_append PySem.F.type_list_append md_append (dv 4) (da_cons (de_int) (da_nil))))) (ds_one (ds_if (DW.t (dw_and (dt_cmp (odEq hr.units) (dv 6) (de_int) (nomark _)) (dw_and (dt_cmp (odEq hr.units) (de_callB cd_len (by rfl) (nob "len" (by decide)) bt_len (da_cons (dv 5) (da_nil))) (de_int) (nomark _)) (dw_and (dt_cmp (odEq hr.units) (dv 2) (de_str [114]) (nomark _)) (dw_and1 (dt_cmp (odEq hr.units) (dv 3) (de_ix (dv 5) (de_int) (fun _ _ => rfl)) (nomark _))))))) (ds_one (ds_expr (de_lm PySem.F.slot_list_append PySem.F.type_list_append md_append (dv 4) (da_cons (de_int) (da_nil))))) (ds_one (ds_expr (de_lm PySem.F.slot_list_append PySem.F.type_list_append md_append (dv 4) (da_cons (dv 6) (da_nil))))))))))
    (ds_one (ds_ret (de_frz (dv 4)))))

abbrev s_Limit_is_full : Stmt := inClass (topS 25) 7
theorem sc_Limit_is_full : FnScope N_Limit_is_full ["self", "marks", "rest"] (defScope s_Limit_is_full) := ⟨rfl, rfl, rfl, by decide +kernel, rfl, by decide +kernel, by decide +kernel⟩
theorem ok_Limit_is_full {P : Program} {w : World} {K : PySem.W.Frag} {mg : Str → Option Value} {base : Heap} (E : LawEnv K mg) {f : Addr} {fd : FuncData} (F : Fun K "is_full" "Limit.is_full" s_Limit_is_full f fd) : FnD P w K mg base 1 f fd ["self", "marks", "rest"] sp_Limit_is_full := by
  have nob := E.nob
  refine fnS F sc_Limit_is_full rl_Limit_is_full fun cdv A outer s H Ex hr => ⟨rd_Limit_is_full, ?_, rp_Limit_is_full⟩
  have nd := sc_Limit_is_full.nd
  have po : PassesOwn (model P w) (cxOf (L2.CX P w) P w K mg base N_Limit_is_full "Limit.is_full" (defScope s_Limit_is_full) f cdv A outer s H Ex).A (cxOf (L2.CX P w) P w K mg base N_Limit_is_full "Limit.is_full" (defScope s_Limit_is_full) f cdv A outer s H Ex).env (cxOf (L2.CX P w) P w K mg base N_Limit_is_full "Limit.is_full" (defScope s_Limit_is_full) f cdv A outer s H Ex).xe := passes_of rfl
  have tk : Takes (cxOf (L2.CX P w) P w K mg base N_Limit_is_full "Limit.is_full" (defScope s_Limit_is_full) f cdv A outer s H Ex) (WF Ex) := takes_of rfl rfl rfl rfl
  exact ds_cons (ds_for po rfl (di_zip2 (by rfl) (nob "zip" (by decide)) (da_cons (de_fld E.f_Limit_ends (dv 0)) (da_cons (dv 1) (da_nil)))) (dg_tp rfl (dgs_cons (i := 3) nd rfl (by first | exact Or.inl rfl | exact Or.inr rfl) (dgs_cons (i := 4) nd rfl (by first | exact Or.inl rfl | exact Or.inr rfl) (dgs_nil)))) (ds_one (ds_if (DW.t (dw_and (dt_cmp od_ge (dv 2) (de_ix (dv 3) (de_neg (de_int)) (fun _ _ => rfl)) (nomark _)) (dw_and1 (DW.t (dw_or (dt_cmp (odEq hr.units) (de_callB cd_len (by rfl) (nob "len" (by decide)) bt_len (da_cons (dv 3) (da_nil))) (de_int) (nomark _)) (dw_or1 (dt_cmp (odEq hr.units) (dv 4) (de_int) (nomark _)))))))) (ds_one (ds_ret (de_bl))) (ds_nil))))
    (ds_one (ds_ret (de_bl)))

abbrev s_Book___len__ : Stmt := inClass (topS 26) 4
theorem sc_Book___len__ : FnScope N_Book___len__ ["self"] (defScope s_Book___len__) := ⟨rfl, rfl, rfl, by decide +kernel, rfl, by decide +kernel, by decide +kernel⟩
theorem ok_Book___len__ {P : Program} {w : World} {K : PySem.W.Frag} {mg : Str → Option Value} {base : Heap} (E : LawEnv K mg) {f : Addr} {fd : FuncData} (F : Fun K "__len__" "Book.__len__" s_Book___len__ f fd) : FnD P w K mg base 1 f fd ["self"] sp_Book___len__ := by
  have nob := E.nob
  refine fnS F sc_Book___len__ rl_Book___len__ fun cdv A outer s H Ex hr => ⟨rd_Book___len__, ?_, rp_Book___len__⟩
  have nd := sc_Book___len__.nd
  have po : PassesOwn (model P w) (cxOf (L2.CX P w) P w K mg base N_Book___len__ "Book.__len__" (defScope s_Book___len__) f cdv A outer s H Ex).A (cxOf (L2.CX P w) P w K mg base N_Book___len__ "Book.__len__" (defScope s_Book___len__) f cdv A outer s H Ex).env (cxOf (L2.CX P w) P w K mg base N_Book___len__ "Book.__len__" (defScope s_Book___len__) f cdv A outer s H Ex).xe := passes_of rfl
  have tk : Takes (cxOf (L2.CX P w) P w K mg base N_Book___len__ "Book.__len__" (defScope s_Book___len__) f cdv A outer s H Ex) (WF Ex) := takes_of rfl rfl rfl rfl
  exact ds_one (ds_ret (de_callB cd_len (by rfl) (nob "len" (by decide)) bt_len (da_cons (de_fld E.f_Book_rules (dv 0)) (da_nil))))

abbrev s_is_whole : Stmt := topS 12
theorem sc_is_whole : FnScope N_is_whole ["value"] (defScope s_is_whole) := ⟨rfl, rfl, rfl, by decide +kernel, rfl, by decide +kernel, by decide +kernel⟩
theorem ok_is_whole {P : Program} {w : World} {K : PySem.W.Frag} {mg : Str → Option Value} {base : Heap} (E : LawEnv K mg) {f : Addr} {fd : FuncData} (F : Fun K "is_whole" "is_whole" s_is_whole f fd) : FnD P w K mg base 1 f fd ["value"] sp_is_whole := by
  have nob := E.nob
  refine fnS F sc_is_whole rl_is_whole fun cdv A outer s H Ex hr => ⟨rd_is_whole, ?_, rp_is_whole⟩
  have nd := sc_is_whole.nd
  have po : PassesOwn (model P w) (cxOf (L2.CX P w) P w K mg base N_is_whole "is_whole" (defScope s_is_whole) f cdv A outer s H Ex).A (cxOf (L2.CX P w) P w K mg base N_is_whole "is_whole" (defScope s_is_whole) f cdv A outer s H Ex).env (cxOf (L2.CX P w) P w K mg base N_is_whole "is_whole" (defScope s_is_whole) f cdv A outer s H Ex).xe := passes_of rfl
  have tk : Takes (cxOf (L2.CX P w) P w K mg base N_is_whole "is_whole" (defScope s_is_whole) f cdv A outer s H Ex) (WF Ex) := takes_of rfl rfl rfl rfl
  exact ds_one (ds_ret (de_and (de_callB cd_isi (by rfl) (nob "isinstance" (by decide)) bt_isinstance (da_cons (dv 0) (da_cons (de_bltn (v := .ty "int") (by rfl) (nob "int" (by decide)) bt_int rfl (fun _ => .ty _)) (da_nil)))) (de_one (de_not (de_callB cd_isi (by rfl) (nob "isinstance" (by decide)) bt_isinstance (da_cons (dv 0) (da_cons (de_bltn (v := .ty "bool") (by rfl) (nob "bool" (by decide)) bt_bool rfl (fun _ => .ty _)) (da_nil))))))))

abbrev s_is_row : Stmt := topS 14
theorem sc_is_row : FnScope N_is_row ["value"] (defScope s_is_row) := ⟨rfl, rfl, rfl, by decide +kernel, rfl, by decide +kernel, by decide +kernel⟩
theorem ok_is_row {P : Program} {w : World} {K : PySem.W.Frag} {mg : Str → Option Value} {base : Heap} (E : LawEnv K mg) {f : Addr} {fd : FuncData} (F : Fun K "is_row" "is_row" s_is_row f fd) : FnD P w K mg base 1 f fd ["value"] sp_is_row := by
  have nob := E.nob
  refine fnS F sc_is_row rl_is_row fun cdv A outer s H Ex hr => ⟨rd_is_row, ?_, rp_is_row⟩
  have nd := sc_is_row.nd
  have po : PassesOwn (model P w) (cxOf (L2.CX P w) P w K mg base N_is_row "is_row" (defScope s_is_row) f cdv A outer s H Ex).A (cxOf (L2.CX P w) P w K mg base N_is_row "is_row" (defScope s_is_row) f cdv A outer s H Ex).env (cxOf (L2.CX P w) P w K mg base N_is_row "is_row" (defScope s_is_row) f cdv A outer s H Ex).xe := passes_of rfl
  have tk : Takes (cxOf (L2.CX P w) P w K mg base N_is_row "is_row" (defScope s_is_row) f cdv A outer s H Ex) (WF Ex) := takes_of rfl rfl rfl rfl
  exact ds_cons (ds_if (DW.t (dw_or (dt_not (dt_val (de_callB cd_isi (by rfl) (nob "isinstance" (by decide)) bt_isinstance (da_cons (dv 0) (da_cons (de_bltn (v := .ty "str") (by rfl) (nob "str" (by decide)) bt_str rfl (fun _ => .ty _)) (da_nil)))))) (dw_or1 (dt_cmp od_gt (de_callB cd_len (by rfl) (nob "len" (by decide)) bt_len (da_cons (dv 0) (da_nil))) (de_gint (by rfl) E.c_MOST_UNITS) (nomark _))))) (ds_one (ds_ret (de_bl))) (ds_nil))
    (ds_one (ds_ret (de_callB (cd_all rfl) (by rfl) (nob "all" (by decide)) bt_all (da_cons (de_lc rfl nd (di_any (dv 0)) (blkOk_by (own := [("unit", 1)]) (N := N_is_row) (sc := defScope s_is_row) (by decide +kernel)) rfl rfl (fun _ _ _ _ _ => dg_nm (i := 1) nd rfl (by first | exact Or.inl rfl | exact Or.inr rfl)) (fun _ _ _ _ _ => dts_nil) (fun _ _ _ _ _ => de_cmp od_in (dv 1) (de_gstr (by rfl) E.c_LETTERS) (by rfl))) (da_nil)))))

abbrev s__law_bag : Stmt := topS 28
theorem sc__law_bag : FnScope N__law_bag ["_law_script"] (defScope s__law_bag) := ⟨rfl, rfl, rfl, by decide +kernel, rfl, by decide +kernel, by decide +kernel⟩
theorem ok__law_bag {P : Program} {w : World} {K : PySem.W.Frag} {mg : Str → Option Value} {base : Heap} (E : LawEnv K mg) {f : Addr} {fd : FuncData} (F : Fun K "_law_bag" "_law_bag" s__law_bag f fd) : FnD P w K mg base 1 f fd ["_law_script"] sp__law_bag := by
  have nob := E.nob
  refine fnS F sc__law_bag rl__law_bag fun cdv A outer s H Ex hr => ⟨rd__law_bag, ?_, rp__law_bag⟩
  have nd := sc__law_bag.nd
  have po : PassesOwn (model P w) (cxOf (L2.CX P w) P w K mg base N__law_bag "_law_bag" (defScope s__law_bag) f cdv A outer s H Ex).A (cxOf (L2.CX P w) P w K mg base N__law_bag "_law_bag" (defScope s__law_bag) f cdv A outer s H Ex).env (cxOf (L2.CX P w) P w K mg base N__law_bag "_law_bag" (defScope s__law_bag) f cdv A outer s H Ex).xe := passes_of rfl
  have tk : Takes (cxOf (L2.CX P w) P w K mg base N__law_bag "_law_bag" (defScope s__law_bag) f cdv A outer s H Ex) (WF Ex) := takes_of rfl rfl rfl rfl
  exact ds_one (ds_ret (de_lstO (da_cons (de_callTy (cd_listA rfl) (by rfl) (nob "list" (by decide)) bt_list (da_cons (dv 0) (da_nil))) (da_cons (de_int) (da_cons (de_int) (da_cons (de_int) (da_cons (de_int) (da_nil))))))))

abbrev s__law_draw : Stmt := topS 29
theorem sc__law_draw : FnScope N__law_draw ["_law_bag_here", "_law_size"] (defScope s__law_draw) := ⟨rfl, rfl, rfl, by decide +kernel, rfl, by decide +kernel, by decide +kernel⟩
theorem ok__law_draw {P : Program} {w : World} {K : PySem.W.Frag} {mg : Str → Option Value} {base : Heap} (E : LawEnv K mg) {f : Addr} {fd : FuncData} (F : Fun K "_law_draw" "_law_draw" s__law_draw f fd) : FnD P w K mg base 1 f fd ["_law_bag_here", "_law_size"] sp__law_draw := by
  have nob := E.nob
  refine fnSo F sc__law_draw rl__law_draw fun cdv A outer s H Ex hr => ⟨rd__law_draw, ?_, rp__law_draw⟩
  have nd := sc__law_draw.nd
  have po : PassesOwn (model P w) (cxOf (L2.CX P w) P w K mg base N__law_draw "_law_draw" (defScope s__law_draw) f cdv A outer s H Ex).A (cxOf (L2.CX P w) P w K mg base N__law_draw "_law_draw" (defScope s__law_draw) f cdv A outer s H Ex).env (cxOf (L2.CX P w) P w K mg base N__law_draw "_law_draw" (defScope s__law_draw) f cdv A outer s H Ex).xe := passes_of rfl
  have tk : Takes (cxOf (L2.CX P w) P w K mg base N__law_draw "_law_draw" (defScope s__law_draw) f cdv A outer s H Ex) (WF Ex) := takes_of rfl rfl rfl rfl
  exact ds_cons (ds_setIx (dv 0) (de_int) (de_op od_add (de_ix (dv 0) (de_int) (fun _ _ => rfl)) (de_int)))
    (ds_cons (ds_if (DW.t (dw_and (dt_cmp (odEq hr.units) (de_ix (dv 0) (de_int) (fun _ _ => rfl)) (de_int) (nomark _)) (dw_and1 (dt_cmp od_lt (de_ix (dv 0) (de_int) (fun _ _ => rfl)) (de_callB cd_len (by rfl) (nob "len" (by decide)) bt_len (da_cons (de_ix (dv 0) (de_int) (fun _ _ => rfl)) (da_nil))) (nomark _))))) (ds_cons (ds_set (i := 2) nd rfl (by first | exact Or.inl rfl | exact Or.inr rfl) (de_ix (de_ix (dv 0) (de_int) (fun _ _ => rfl)) (de_ix (dv 0) (de_int) (fun _ _ => rfl)) (fun _ _ => rfl)))
    (ds_cons (ds_setIx (dv 0) (de_int) (de_op od_add (de_ix (dv 0) (de_int) (fun _ _ => rfl)) (de_int)))
    (ds_cons (ds_setIx (dv 0) (de_int) (de_op od_mul (de_op od_add (de_op od_mul (de_int) (de_callB cd_abs (by rfl) (nob "abs" (by decide)) bt_abs (da_cons (dv 2) (da_nil)))) (de_callTy cd_int (by rfl) (nob "int" (by decide)) bt_int (da_cons (de_cmp od_lt (dv 2) (de_int) (nomark _)) (da_nil)))) (de_callTy cd_int (by rfl) (nob "int" (by decide)) bt_int (da_cons (de_cmp od_ge (de_callB cd_abs (by rfl) (nob "abs" (by decide)) bt_abs (da_cons (dv 2) (da_nil))) (de_op od_pow (de_int) (de_int)) (nomark _)) (da_nil)))))
    (ds_one (ds_setIx (dv 0) (de_int) (de_op od_mod (de_callTy cd_int (by rfl) (nob "int" (by decide)) bt_int (da_cons (de_op od_add (de_op od_add (de_op od_mul (de_ix (dv 0) (de_int) (fun _ _ => rfl)) (de_int)) (de_op od_mul (dv 2) (de_int))) (de_int)) (da_nil))) (de_int))))))) (ds_nil))
    (ds_cons (ds_set (i := 3) nd rfl (by first | exact Or.inl rfl | exact Or.inr rfl) (de_op od_mod (de_callTy cd_int (by rfl) (nob "int" (by decide)) bt_int (da_cons (de_ix (dv 0) (de_int) (fun _ _ => rfl)) (da_nil))) (dv 1)))
    (ds_cons (ds_if (dt_cmp od_gt (de_ix (dv 0) (de_int) (fun _ _ => rfl)) (de_int) (nomark _)) (ds_cons (ds_setIx (dv 0) (de_int) (de_op od_fdiv (de_ix (dv 0) (de_int) (fun _ _ => rfl)) (dv 1)))
    (ds_one (ds_ret (dv 3)))) (ds_nil))
    (ds_cons (ds_set (i := 4) nd rfl (by first | exact Or.inl rfl | exact Or.inr rfl) (de_op od_mod (de_callTy cd_int (by rfl) (nob "int" (by decide)) bt_int (da_cons (de_op od_add (de_ix (dv 0) (de_int) (fun _ _ => rfl)) (de_op od_mul (de_ix (dv 0) (de_int) (fun _ _ => rfl)) (de_int))) (da_nil))) (de_int)))
    (ds_cons (ds_set (i := 4) nd rfl (by first | exact Or.inl rfl | exact Or.inr rfl) (de_op od_mod (de_callTy cd_int (by rfl) (nob "int" (by decide)) bt_int (da_cons (de_op od_add (de_op od_add (de_op od_pow (dv 4) (de_int)) (de_op od_mul (de_ix (dv 0) (de_int) (fun _ _ => rfl)) (de_int))) (de_int)) (da_nil))) (de_int)))
    (ds_one (ds_ret (de_op od_mod (de_op od_fdiv (de_op od_mod (de_callTy cd_int (by rfl) (nob "int" (by decide)) bt_int (da_cons (de_op od_pow (dv 4) (de_int)) (da_nil))) (de_int)) (de_int)) (dv 1)))))))))

abbrev s__law_top : Stmt := topS 32
theorem sc__law_top : FnScope N__law_top ["_law_plain"] (defScope s__law_top) := ⟨rfl, rfl, rfl, by decide +kernel, rfl, by decide +kernel, by decide +kernel⟩
theorem ok__law_top {P : Program} {w : World} {K : PySem.W.Frag} {mg : Str → Option Value} {base : Heap} (E : LawEnv K mg) {f : Addr} {fd : FuncData} (F : Fun K "_law_top" "_law_top" s__law_top f fd) : FnD P w K mg base 1 f fd ["_law_plain"] sp__law_top := by
  have nob := E.nob
  refine fnS F sc__law_top rl__law_top fun cdv A outer s H Ex hr => ⟨rd__law_top, ?_, rp__law_top⟩
  have nd := sc__law_top.nd
  have po : PassesOwn (model P w) (cxOf (L2.CX P w) P w K mg base N__law_top "_law_top" (defScope s__law_top) f cdv A outer s H Ex).A (cxOf (L2.CX P w) P w K mg base N__law_top "_law_top" (defScope s__law_top) f cdv A outer s H Ex).env (cxOf (L2.CX P w) P w K mg base N__law_top "_law_top" (defScope s__law_top) f cdv A outer s H Ex).xe := passes_of rfl
  have tk : Takes (cxOf (L2.CX P w) P w K mg base N__law_top "_law_top" (defScope s__law_top) f cdv A outer s H Ex) (WF Ex) := takes_of rfl rfl rfl rfl
  exact ds_cons (ds_set (i := 1) nd rfl (by first | exact Or.inl rfl | exact Or.inr rfl) (de_int))
    (ds_cons (ds_for po rfl (di_any (dv 0)) (dg_tp rfl (dgs_cons (i := 2) nd rfl (by first | exact Or.inl rfl | exact Or.inr rfl) (dgs_cons (i := 3) nd rfl (by first | exact Or.inl rfl | exact Or.inr rfl) (dgs_cons (i := 4) nd rfl (by first | exact Or.inl rfl | exact Or.inr rfl) (dgs_nil))))) (ds_one (ds_for po rfl (di_any (dv 4)) (dg_nm (i := 5) nd rfl (by first | exact Or.inl rfl | exact Or.inr rfl)) (ds_one (ds_set (i := 1) nd rfl (by first | exact Or.inl rfl | exact Or.inr rfl) (de_callB (cd_max2 rfl) (by rfl) (nob "max" (by decide)) bt_max (da_cons (dv 1) (da_cons (de_callB (cd_maxL rfl) (by rfl) (nob "max" (by decide)) bt_max (da_cons (dv 5) (da_nil))) (da_nil)))))))))
    (ds_one (ds_ret (de_op od_add (dv 1) (de_int)))))

abbrev s__law_fresh : Stmt := topS 33
theorem sc__law_fresh : FnScope N__law_fresh ["_law_plain"] (defScope s__law_fresh) := ⟨rfl, rfl, rfl, by decide +kernel, rfl, by decide +kernel, by decide +kernel⟩
theorem ok__law_fresh {P : Program} {w : World} {K : PySem.W.Frag} {mg : Str → Option Value} {base : Heap} (E : LawEnv K mg) {f : Addr} {fd : FuncData} (F : Fun K "_law_fresh" "_law_fresh" s__law_fresh f fd) : FnD P w K mg base 1 f fd ["_law_plain"] sp__law_fresh := by
  have nob := E.nob
  refine fnS F sc__law_fresh rl__law_fresh fun cdv A outer s H Ex hr => ⟨rd__law_fresh, ?_, rp__law_fresh⟩
  have nd := sc__law_fresh.nd
  have po : PassesOwn (model P w) (cxOf (L2.CX P w) P w K mg base N__law_fresh "_law_fresh" (defScope s__law_fresh) f cdv A outer s H Ex).A (cxOf (L2.CX P w) P w K mg base N__law_fresh "_law_fresh" (defScope s__law_fresh) f cdv A outer s H Ex).env (cxOf (L2.CX P w) P w K mg base N__law_fresh "_law_fresh" (defScope s__law_fresh) f cdv A outer s H Ex).xe := passes_of rfl
  have tk : Takes (cxOf (L2.CX P w) P w K mg base N__law_fresh "_law_fresh" (defScope s__law_fresh) f cdv A outer s H Ex) (WF Ex) := takes_of rfl rfl rfl rfl
  exact ds_cons (ds_set (i := 1) nd rfl (by first | exact Or.inl rfl | exact Or.inr rfl) (de_callTy cd_tuple (by rfl) (nob "tuple" (by decide)) bt_tuple (da_cons (de_lc rfl nd (di_any (dv 0)) (blkOk_by (own := [("_law_limit_here", 2)]) (N := N__law_fresh) (sc := defScope s__law_fresh) (by decide +kernel)) rfl rfl (fun _ _ _ _ _ => dg_nm (i := 2) nd rfl (by first | exact Or.inl rfl | exact Or.inr rfl)) (fun _ _ _ _ _ => dts_nil) (fun _ _ _ _ _ => de_int)) (da_nil))))
    (ds_one (ds_ret (de_tup (da_cons (de_int) (da_cons (dv 1) (da_cons (de_callTy cd_tuple (by rfl) (nob "tuple" (by decide)) bt_tuple (da_cons (de_lc rfl nd (di_any (dv 0)) (blkOk_by (own := [("_law_limit_here", 2)]) (N := N__law_fresh) (sc := defScope s__law_fresh) (by decide +kernel)) rfl rfl (fun _ _ _ _ _ => dg_nm (i := 2) nd rfl (by first | exact Or.inl rfl | exact Or.inr rfl)) (fun _ _ _ _ _ => dts_nil) (fun _ _ _ _ _ => de_callTy cd_tuple (by rfl) (nob "tuple" (by decide)) bt_tuple (da_cons (de_lc rfl nd (di_any (de_ix (dv 2) (de_int) (fun _ _ => rfl))) (blkOk_by (own := [("_law_way", 3)]) (by kernel_rfl)) rfl rfl (fun _ _ _ _ _ => dg_nm (i := 3) nd rfl (by first | exact Or.inl rfl | exact Or.inr rfl)) (fun _ _ _ _ _ => dts_nil) (fun _ _ _ _ _ => de_int)) (da_nil)))) (da_nil))) (da_nil)))))))

abbrev s__law_mark : Stmt := topS 34
theorem sc__law_mark : FnScope N__law_mark ["_law_way", "_law_mark_here", "_law_unit", "_law_rest"] (defScope s__law_mark) := ⟨rfl, rfl, rfl, by decide +kernel, rfl, by decide +kernel, by decide +kernel⟩
theorem ok__law_mark {P : Program} {w : World} {K : PySem.W.Frag} {mg : Str → Option Value} {base : Heap} (E : LawEnv K mg) {f : Addr} {fd : FuncData} (F : Fun K "_law_mark" "_law_mark" s__law_mark f fd) : FnD P w K mg base 1 f fd ["_law_way", "_law_mark_here", "_law_unit", "_law_rest"] sp__law_mark := by
  have nob := E.nob
  refine fnS F sc__law_mark rl__law_mark fun cdv A outer s H Ex hr => ⟨rd__law_mark, ?_, rp__law_mark⟩
  have nd := sc__law_mark.nd
  have po : PassesOwn (model P w) (cxOf (L2.CX P w) P w K mg base N__law_mark "_law_mark" (defScope s__law_mark) f cdv A outer s H Ex).A (cxOf (L2.CX P w) P w K mg base N__law_mark "_law_mark" (defScope s__law_mark) f cdv A outer s H Ex).env (cxOf (L2.CX P w) P w K mg base N__law_mark "_law_mark" (defScope s__law_mark) f cdv A outer s H Ex).xe := passes_of rfl
  have tk : Takes (cxOf (L2.CX P w) P w K mg base N__law_mark "_law_mark" (defScope s__law_mark) f cdv A outer s H Ex) (WF Ex) := takes_of rfl rfl rfl rfl
  exact ds_cons (ds_if (DW.t (dw_and (dt_cmp (odEq hr.units) (dv 1) (de_int) (nomark _)) (dw_and1 (dt_cmp (odNe hr.units) (dv 2) (de_str [114]) (nomark _))))) (ds_one (ds_ret (de_int))) (ds_nil))
    (ds_cons (ds_if (DW.t (dw_and (dt_cmp (odEq hr.units) (dv 1) (de_int) (nomark _)) (dw_and (dt_cmp (odEq hr.units) (de_callB cd_len (by rfl) (nob "len" (by decide)) bt_len (da_cons (dv 0) (da_nil))) (de_int) (nomark _)) (dw_and (dt_cmp (odEq hr.units) (dv 2) (de_str [114]) (nomark _)) (dw_and1 (dt_cmp (odEq hr.units) (dv 3) (de_ix (dv 0) (de_int) (fun _ _ => rfl)) (nomark _))))))) (ds_one (ds_ret (de_int))) (ds_nil))
    (ds_one (ds_ret (dv 1))))

abbrev s__law_is_full : Stmt := topS 35
theorem sc__law_is_full : FnScope N__law_is_full ["_law_way", "_law_mark_here", "_law_rest"] (defScope s__law_is_full) := ⟨rfl, rfl, rfl, by decide +kernel, rfl, by decide +kernel, by decide +kernel⟩
theorem ok__law_is_full {P : Program} {w : World} {K : PySem.W.Frag} {mg : Str → Option Value} {base : Heap} (E : LawEnv K mg) {f : Addr} {fd : FuncData} (F : Fun K "_law_is_full" "_law_is_full" s__law_is_full f fd) : FnD P w K mg base 1 f fd ["_law_way", "_law_mark_here", "_law_rest"] sp__law_is_full := by
  have nob := E.nob
  refine fnS F sc__law_is_full rl__law_is_full fun cdv A outer s H Ex hr => ⟨rd__law_is_full, ?_, rp__law_is_full⟩
  have nd := sc__law_is_full.nd
  have po : PassesOwn (model P w) (cxOf (L2.CX P w) P w K mg base N__law_is_full "_law_is_full" (defScope s__law_is_full) f cdv A outer s H Ex).A (cxOf (L2.CX P w) P w K mg base N__law_is_full "_law_is_full" (defScope s__law_is_full) f cdv A outer s H Ex).env (cxOf (L2.CX P w) P w K mg base N__law_is_full "_law_is_full" (defScope s__law_is_full) f cdv A outer s H Ex).xe := passes_of rfl
  have tk : Takes (cxOf (L2.CX P w) P w K mg base N__law_is_full "_law_is_full" (defScope s__law_is_full) f cdv A outer s H Ex) (WF Ex) := takes_of rfl rfl rfl rfl
  exact ds_cons (ds_if (dt_cmp (odEq hr.units) (de_callB cd_len (by rfl) (nob "len" (by decide)) bt_len (da_cons (dv 0) (da_nil))) (de_int) (nomark _)) (ds_one (ds_ret (de_cmp od_ge (dv 2) (de_ix (dv 0) (de_int) (fun _ _ => rfl)) (nomark _)))) (ds_nil))
    (ds_one (ds_ret (de_and (de_cmp (odEq hr.units) (dv 1) (de_int) (nomark _)) (de_one (de_cmp od_ge (dv 2) (de_ix (dv 0) (de_int) (fun _ _ => rfl)) (nomark _))))))

abbrev s_Limit_counted : Stmt := inClass (topS 25) 8
theorem sc_Limit_counted : FnScope N_Limit_counted ["self", "count", "marks", "unit", "rest"] (defScope s_Limit_counted) := ⟨rfl, rfl, rfl, by decide +kernel, rfl, by decide +kernel, by decide +kernel⟩
theorem ok_Limit_counted {P : Program} {w : World} {K : PySem.W.Frag} {mg : Str → Option Value} {base : Heap} (E : LawEnv K mg) {f : Addr} {fd : FuncData} (m_Limit_marks_behind : MetD P w K mg base 1 "Limit" "marks_behind" ["self", "marks", "unit", "rest"] [] sp_Limit_marks_behind) (m_Limit_is_full : MetD P w K mg base 1 "Limit" "is_full" ["self", "marks", "rest"] [] sp_Limit_is_full) (F : Fun K "counted" "Limit.counted" s_Limit_counted f fd) : FnD P w K mg base 2 f fd ["self", "count", "marks", "unit", "rest"] sp_Limit_counted := by
  have nob := E.nob
  refine fnS F sc_Limit_counted rl_Limit_counted fun cdv A outer s H Ex hr => ⟨rd_Limit_counted, ?_, rp_Limit_counted⟩
  have nd := sc_Limit_counted.nd
  have po : PassesOwn (model P w) (cxOf (L2.CX P w) P w K mg base N_Limit_counted "Limit.counted" (defScope s_Limit_counted) f cdv A outer s H Ex).A (cxOf (L2.CX P w) P w K mg base N_Limit_counted "Limit.counted" (defScope s_Limit_counted) f cdv A outer s H Ex).env (cxOf (L2.CX P w) P w K mg base N_Limit_counted "Limit.counted" (defScope s_Limit_counted) f cdv A outer s H Ex).xe := passes_of rfl
  have tk : Takes (cxOf (L2.CX P w) P w K mg base N_Limit_counted "Limit.counted" (defScope s_Limit_counted) f cdv A outer s H Ex) (WF Ex) := takes_of rfl rfl rfl rfl
  exact ds_cons (ds_set (i := 1) nd rfl (by first | exact Or.inl rfl | exact Or.inr rfl) (de_callB (cd_min2 rfl) (by rfl) (nob "min" (by decide)) bt_min (da_cons (de_op od_add (dv 1) (de_callTy cd_int (by rfl) (nob "int" (by decide)) bt_int (da_cons (de_cmp od_in (dv 3) (de_fld E.f_Limit_letters (dv 0)) (by rfl)) (da_nil)))) (da_cons (de_op od_add (de_fld E.f_Limit_bound (dv 0)) (de_int)) (da_nil)))))
    (ds_cons (ds_set (i := 5) nd rfl (by first | exact Or.inl rfl | exact Or.inr rfl) (de_meth m_Limit_marks_behind hr (by decide) (fun σ => passAt tk σ) (dv 0) (da_cons (dv 2) (da_cons (dv 3) (da_cons (dv 4) (da_nil))))))
    (ds_cons (ds_if (dt_val (de_meth m_Limit_is_full hr (by decide) (fun σ => passAt tk σ) (dv 0) (da_cons (dv 5) (da_cons (dv 4) (da_nil))))) (ds_cons (ds_set (i := 1) nd rfl (by first | exact Or.inl rfl | exact Or.inr rfl) (de_int))
    (ds_one (ds_setLc (i := 5) rfl nd rfl rfl (sw_true rfl rfl rfl (by decide +kernel)) (di_any (de_fld E.f_Limit_ends (dv 0))) (blkOk_by (own := [("way", 6)]) (N := N_Limit_counted) (sc := defScope s_Limit_counted) (by decide +kernel)) rfl rfl (fun _ _ _ _ _ => dg_nm (i := 6) nd rfl (by first | exact Or.inl rfl | exact Or.inr rfl)) (fun _ _ _ _ _ => dts_nil) (fun _ _ _ _ _ => de_int)))) (ds_nil))
    (ds_one (ds_ret (de_tup (da_cons (dv 1) (da_cons (de_callTy cd_tuple (by rfl) (nob "tuple" (by decide)) bt_tuple (da_cons (dv 5) (da_nil))) (da_cons (de_and (de_cmp od_in (dv 3) (de_fld E.f_Limit_letters (dv 0)) (by rfl)) (de_one (de_cmp od_gt (dv 1) (de_fld E.f_Limit_bound (dv 0)) (nomark _)))) (da_nil)))))))))

abbrev s_is_integer : Stmt := topS 13
theorem sc_is_integer : FnScope N_is_integer ["value", "least"] (defScope s_is_integer) := ⟨rfl, rfl, rfl, by decide +kernel, rfl, by decide +kernel, by decide +kernel⟩
theorem ok_is_integer {P : Program} {w : World} {K : PySem.W.Frag} {mg : Str → Option Value} {base : Heap} (E : LawEnv K mg) {f : Addr} {fd : FuncData} (c_is_whole : CalD P w K mg base 1 "is_whole" ["value"] sp_is_whole) (F : Fun K "is_integer" "is_integer" s_is_integer f fd) : FnD P w K mg base 2 f fd ["value", "least"] sp_is_integer := by
  have nob := E.nob
  refine fnS F sc_is_integer rl_is_integer fun cdv A outer s H Ex hr => ⟨rd_is_integer, ?_, rp_is_integer⟩
  have nd := sc_is_integer.nd
  have po : PassesOwn (model P w) (cxOf (L2.CX P w) P w K mg base N_is_integer "is_integer" (defScope s_is_integer) f cdv A outer s H Ex).A (cxOf (L2.CX P w) P w K mg base N_is_integer "is_integer" (defScope s_is_integer) f cdv A outer s H Ex).env (cxOf (L2.CX P w) P w K mg base N_is_integer "is_integer" (defScope s_is_integer) f cdv A outer s H Ex).xe := passes_of rfl
  have tk : Takes (cxOf (L2.CX P w) P w K mg base N_is_integer "is_integer" (defScope s_is_integer) f cdv A outer s H Ex) (WF Ex) := takes_of rfl rfl rfl rfl
  exact ds_one (ds_ret (de_and (de_c1 c_is_whole hr (by decide) (by rfl) (fun σ => passAt tk σ) (da_cons (dv 0) (da_nil))) (de_one (de_cmp od_ge (dv 0) (dv 1) (nomark _)))))

abbrev s_is_kinds : Stmt := topS 15
theorem sc_is_kinds : FnScope N_is_kinds ["value"] (defScope s_is_kinds) := ⟨rfl, rfl, rfl, by decide +kernel, rfl, by decide +kernel, by decide +kernel⟩
theorem ok_is_kinds {P : Program} {w : World} {K : PySem.W.Frag} {mg : Str → Option Value} {base : Heap} (E : LawEnv K mg) {f : Addr} {fd : FuncData} (c_is_row : CalD P w K mg base 1 "is_row" ["value"] sp_is_row) (F : Fun K "is_kinds" "is_kinds" s_is_kinds f fd) : FnD P w K mg base 2 f fd ["value"] sp_is_kinds := by
  have nob := E.nob
  refine fnS F sc_is_kinds rl_is_kinds fun cdv A outer s H Ex hr => ⟨rd_is_kinds, ?_, rp_is_kinds⟩
  have nd := sc_is_kinds.nd
  have po : PassesOwn (model P w) (cxOf (L2.CX P w) P w K mg base N_is_kinds "is_kinds" (defScope s_is_kinds) f cdv A outer s H Ex).A (cxOf (L2.CX P w) P w K mg base N_is_kinds "is_kinds" (defScope s_is_kinds) f cdv A outer s H Ex).env (cxOf (L2.CX P w) P w K mg base N_is_kinds "is_kinds" (defScope s_is_kinds) f cdv A outer s H Ex).xe := passes_of rfl
  have tk : Takes (cxOf (L2.CX P w) P w K mg base N_is_kinds "is_kinds" (defScope s_is_kinds) f cdv A outer s H Ex) (WF Ex) := takes_of rfl rfl rfl rfl
  exact ds_one (ds_ret (de_and (de_c1 c_is_row hr (by decide) (by rfl) (fun σ => passAt tk σ) (da_cons (dv 0) (da_nil))) (de_and (de_chain od_le od_le (de_int) (de_callB cd_len (by rfl) (nob "len" (by decide)) bt_len (da_cons (dv 0) (da_nil))) (de_callB cd_len (by rfl) (nob "len" (by decide)) bt_len (da_cons (de_gstr (by rfl) E.c_LETTERS) (da_nil)))) (de_one (de_cmp (odEq hr.units) (de_lenSet rfl (by rfl) (nob "len" (by decide)) (by rfl) (nob "set" (by decide)) (dv 0)) (de_callB cd_len (by rfl) (nob "len" (by decide)) bt_len (da_cons (dv 0) (da_nil))) (nomark _))))))

abbrev s__law_pick : Stmt := topS 30
theorem sc__law_pick : FnScope N__law_pick ["_law_bag_here", "_law_items"] (defScope s__law_pick) := ⟨rfl, rfl, rfl, by decide +kernel, rfl, by decide +kernel, by decide +kernel⟩
theorem ok__law_pick {P : Program} {w : World} {K : PySem.W.Frag} {mg : Str → Option Value} {base : Heap} (E : LawEnv K mg) {f : Addr} {fd : FuncData} (c__law_draw : CalD P w K mg base 1 "_law_draw" ["_law_bag_here", "_law_size"] sp__law_draw) (F : Fun K "_law_pick" "_law_pick" s__law_pick f fd) : FnD P w K mg base 2 f fd ["_law_bag_here", "_law_items"] sp__law_pick := by
  have nob := E.nob
  refine fnS F sc__law_pick rl__law_pick fun cdv A outer s H Ex hr => ⟨rd__law_pick, ?_, rp__law_pick⟩
  have nd := sc__law_pick.nd
  have po : PassesOwn (model P w) (cxOf (L2.CX P w) P w K mg base N__law_pick "_law_pick" (defScope s__law_pick) f cdv A outer s H Ex).A (cxOf (L2.CX P w) P w K mg base N__law_pick "_law_pick" (defScope s__law_pick) f cdv A outer s H Ex).env (cxOf (L2.CX P w) P w K mg base N__law_pick "_law_pick" (defScope s__law_pick) f cdv A outer s H Ex).xe := passes_of rfl
  have tk : Takes (cxOf (L2.CX P w) P w K mg base N__law_pick "_law_pick" (defScope s__law_pick) f cdv A outer s H Ex) (WF Ex) := takes_of rfl rfl rfl rfl
  exact ds_one (ds_ret (de_ix (dv 1) (de_c1 c__law_draw hr (by decide) (by rfl) (fun σ => passAt tk σ) (da_cons (dv 0) (da_cons (de_callB cd_len (by rfl) (nob "len" (by decide)) bt_len (da_cons (dv 1) (da_nil))) (da_nil)))) (fun _ _ => rfl)))

abbrev s__law_mixed : Stmt := topS 31
theorem sc__law_mixed : FnScope N__law_mixed ["_law_bag_here", "_law_items"] (defScope s__law_mixed) := ⟨rfl, rfl, rfl, by decide +kernel, rfl, by decide +kernel, by decide +kernel⟩
theorem ok__law_mixed {P : Program} {w : World} {K : PySem.W.Frag} {mg : Str → Option Value} {base : Heap} (E : LawEnv K mg) {f : Addr} {fd : FuncData} (c__law_draw : CalD P w K mg base 1 "_law_draw" ["_law_bag_here", "_law_size"] sp__law_draw) (F : Fun K "_law_mixed" "_law_mixed" s__law_mixed f fd) : FnD P w K mg base 2 f fd ["_law_bag_here", "_law_items"] sp__law_mixed := by
  have nob := E.nob
  refine fnS F sc__law_mixed rl__law_mixed fun cdv A outer s H Ex hr => ⟨rd__law_mixed, ?_, rp__law_mixed⟩
  have nd := sc__law_mixed.nd
  have po : PassesOwn (model P w) (cxOf (L2.CX P w) P w K mg base N__law_mixed "_law_mixed" (defScope s__law_mixed) f cdv A outer s H Ex).A (cxOf (L2.CX P w) P w K mg base N__law_mixed "_law_mixed" (defScope s__law_mixed) f cdv A outer s H Ex).env (cxOf (L2.CX P w) P w K mg base N__law_mixed "_law_mixed" (defScope s__law_mixed) f cdv A outer s H Ex).xe := passes_of rfl
  have tk : Takes (cxOf (L2.CX P w) P w K mg base N__law_mixed "_law_mixed" (defScope s__law_mixed) f cdv A outer s H Ex) (WF Ex) := takes_of rfl rfl rfl rfl
  exact ds_cons (ds_set (i := 2) nd rfl (by first | exact Or.inl rfl | exact Or.inr rfl) (de_callTy (cd_listAO rfl) (by rfl) (nob "list" (by decide)) bt_list (da_cons (dv 1) (da_nil))))
    (ds_cons (ds_set (i := 3) nd rfl (by first | exact Or.inl rfl | exact Or.inr rfl) (de_lstO (da_nil)))
    (ds_cons (ds_for po rfl (di_range1 (by rfl) (nob "range" (by decide)) (da_cons (de_callB cd_len (by rfl) (nob "len" (by decide)) bt_len (da_cons (dv 1) (da_nil))) (da_nil))) (dg_nm (i := 4) nd rfl (by first | exact Or.inl rfl | exact Or.inr rfl)) (ds_one (ds_expr (de_lm PySem.F.slot_list_append PySem.F.type_list_append md_append (dv 3) (da_cons (de_lm PySem.F.slot_list_pop PySem.F.type_list_pop md_popAt (dv 2) (da_cons (de_c1 c__law_draw hr (by decide) (by rfl) (fun σ => passAt tk σ) (da_cons (dv 0) (da_cons (de_callB cd_len (by rfl) (nob "len" (by decide)) bt_len (da_cons (dv 2) (da_nil))) (da_nil)))) (da_nil))) (da_nil))))))
    (ds_one (ds_ret (dv 3)))))

abbrev s__law_step : Stmt := topS 36
theorem sc__law_step : FnScope N__law_step ["_law_plain", "_law_stand_here", "_law_unit"] (defScope s__law_step) := ⟨rfl, rfl, rfl, by decide +kernel, rfl, by decide +kernel, by decide +kernel⟩
theorem ok__law_step {P : Program} {w : World} {K : PySem.W.Frag} {mg : Str → Option Value} {base : Heap} (E : LawEnv K mg) {f : Addr} {fd : FuncData} (c__law_top : CalD P w K mg base 1 "_law_top" ["_law_plain"] sp__law_top) (c__law_mark : CalD P w K mg base 1 "_law_mark" ["_law_way", "_law_mark_here", "_law_unit", "_law_rest"] sp__law_mark) (c__law_is_full : CalD P w K mg base 1 "_law_is_full" ["_law_way", "_law_mark_here", "_law_rest"] sp__law_is_full) (F : Fun K "_law_step" "_law_step" s__law_step f fd) : FnD P w K mg base 2 f fd ["_law_plain", "_law_stand_here", "_law_unit"] sp__law_step := by
  have nob := E.nob
  refine fnS F sc__law_step rl__law_step fun cdv A outer s H Ex hr => ⟨rd__law_step, ?_, rp__law_step⟩
  have nd := sc__law_step.nd
  have po : PassesOwn (model P w) (cxOf (L2.CX P w) P w K mg base N__law_step "_law_step" (defScope s__law_step) f cdv A outer s H Ex).A (cxOf (L2.CX P w) P w K mg base N__law_step "_law_step" (defScope s__law_step) f cdv A outer s H Ex).env (cxOf (L2.CX P w) P w K mg base N__law_step "_law_step" (defScope s__law_step) f cdv A outer s H Ex).xe := passes_of rfl
  have tk : Takes (cxOf (L2.CX P w) P w K mg base N__law_step "_law_step" (defScope s__law_step) f cdv A outer s H Ex) (WF Ex) := takes_of rfl rfl rfl rfl
  exact ds_cons (ds_set (i := 3) nd rfl (by first | exact Or.inl rfl | exact Or.inr rfl) (de_int))
    (ds_cons (ds_if (dt_cmp (odEq hr.units) (dv 2) (de_str [114]) (nomark _)) (ds_one (ds_set (i := 3) nd rfl (by first | exact Or.inl rfl | exact Or.inr rfl) (de_callB (cd_min2 rfl) (by rfl) (nob "min" (by decide)) bt_min (da_cons (de_op od_add (de_ix (dv 1) (de_int) (fun _ _ => rfl)) (de_int)) (da_cons (de_c1 c__law_top hr (by decide) (by rfl) (fun σ => passAt tk σ) (da_cons (dv 0) (da_nil))) (da_nil)))))) (ds_nil))
    (ds_cons (ds_set (i := 4) nd rfl (by first | exact Or.inl rfl | exact Or.inr rfl) (de_lstO (da_nil)))
    (ds_cons (ds_set (i := 5) nd rfl (by first | exact Or.inl rfl | exact Or.inr rfl) (de_lstO (da_nil)))
    (ds_cons (ds_set (i := 6) nd rfl (by first | exact Or.inl rfl | exact Or.inr rfl) (de_lstO (da_nil)))
    (ds_cons (ds_for po rfl (di_range1 (by rfl) (nob "range" (by decide)) (da_cons (de_callB cd_len (by rfl) (nob "len" (by decide)) bt_len (da_cons (dv 0) (da_nil))) (da_nil))) (dg_nm (i := 7) nd rfl (by first | exact Or.inl rfl | exact Or.inr rfl)) (ds_cons (ds_asg (de_ix (dv 0) (dv 7) (fun _ _ => rfl)) (dg_tp rfl (dgs_cons (i := 10) nd rfl (by first | exact Or.inl rfl | exact Or.inr rfl) (dgs_cons (i := 11) nd rfl (by first | exact Or.inl rfl | exact Or.inr rfl) (dgs_cons (i := 12) nd rfl (by first | exact Or.inl rfl | exact Or.inr rfl) (dgs_nil))))))
    (ds_cons (ds_set (i := 8) nd rfl (by first | exact Or.inl rfl | exact Or.inr rfl) (de_callB (cd_min2 rfl) (by rfl) (nob "min" (by decide)) bt_min (da_cons (de_op od_add (de_ix (de_ix (dv 1) (de_int) (fun _ _ => rfl)) (dv 7) (fun _ _ => rfl)) (de_callTy cd_int (by rfl) (nob "int" (by decide)) bt_int (da_cons (de_cmp od_in (dv 2) (dv 10) (by rfl)) (da_nil)))) (da_cons (de_op od_add (dv 11) (de_int)) (da_nil)))))
    (ds_cons (ds_set (i := 9) nd rfl (by first | exact Or.inl rfl | exact Or.inr rfl) (de_lc rfl nd (di_range1 (by rfl) (nob "range" (by decide)) (da_cons (de_callB cd_len (by rfl) (nob "len" (by decide)) bt_len (da_cons (dv 12) (da_nil))) (da_nil))) (blkOk_by (own := [("_law_j", 13)]) (N := N__law_step) (sc := defScope s__law_step) (by decide +kernel)) rfl rfl (fun _ _ _ _ _ => dg_nm (i := 13) nd rfl (by first | exact Or.inl rfl | exact Or.inr rfl)) (fun _ _ _ _ _ => dts_nil) (fun _ _ _ _ _ => de_c1 c__law_mark hr (by decide) (by rfl) pas0 (da_cons (de_ix (dv 12) (dv 13) (fun _ _ => rfl)) (da_cons (de_ix (de_ix (de_ix (dv 1) (de_int) (fun _ _ => rfl)) (dv 7) (fun _ _ => rfl)) (dv 13) (fun _ _ => rfl)) (da_cons (dv 2) (da_cons (dv 3) (da_nil))))))))
    (ds_cons (ds_if (dt_val (de_callB (cd_any rfl) (by rfl) (nob "any" (by decide)) bt_any (da_cons (de_lc rfl nd (di_range1 (by rfl) (nob "range" (by decide)) (da_cons (de_callB cd_len (by rfl) (nob "len" (by decide)) bt_len (da_cons (dv 12) (da_nil))) (da_nil))) (blkOk_by (own := [("_law_j", 13)]) (N := N__law_step) (sc := defScope s__law_step) (by decide +kernel)) rfl rfl (fun _ _ _ _ _ => dg_nm (i := 13) nd rfl (by first | exact Or.inl rfl | exact Or.inr rfl)) (fun _ _ _ _ _ => dts_nil) (fun _ _ _ _ _ => de_c1 c__law_is_full hr (by decide) (by rfl) pas0 (da_cons (de_ix (dv 12) (dv 13) (fun _ _ => rfl)) (da_cons (de_ix (dv 9) (dv 13) (fun _ _ => rfl)) (da_cons (dv 3) (da_nil)))))) (da_nil)))) (ds_cons (ds_set (i := 8) nd rfl (by first | exact Or.inl rfl | exact Or.inr rfl) (de_int))
    (ds_one (ds_set (i := 9) nd rfl (by first | exact Or.inl rfl | exact Or.inr rfl) (de_lc rfl nd (di_any (dv 12)) (blkOk_by (own := [("_law_way", 14)]) (N := N__law_step) (sc := defScope s__law_step) (by decide +kernel)) rfl rfl (fun _ _ _ _ _ => dg_nm (i := 14) nd rfl (by first | exact Or.inl rfl | exact Or.inr rfl)) (fun _ _ _ _ _ => dts_nil) (fun _ _ _ _ _ => de_int))))) (ds_nil))
    (ds_cons (ds_if (DW.t (dw_and (dt_cmp od_in (dv 2) (dv 10) (by rfl)) (dw_and1 (dt_cmp od_gt (dv 8) (dv 11) (nomark _))))) (ds_one (ds_expr (de_lm PySem.F.slot_list_append PySem.F.type_list_append md_append (dv 6) (da_cons (dv 7) (da_nil))))) (ds_nil))
    (ds_cons (ds_expr (de_lm PySem.F.slot_list_append PySem.F.type_list_append md_append (dv 4) (da_cons (dv 8) (da_nil))))
    (ds_one (ds_expr (de_lm PySem.F.slot_list_append PySem.F.type_list_append md_append (dv 5) (da_cons (de_callTy cd_tuple (by rfl) (nob "tuple" (by decide)) bt_tuple (da_cons (dv 9) (da_nil))) (da_nil))))))))))))
    (ds_one (ds_ret (de_tup (da_cons (de_tup (da_cons (dv 3) (da_cons (de_callTy cd_tuple (by rfl) (nob "tuple" (by decide)) bt_tuple (da_cons (dv 4) (da_nil))) (da_cons (de_callTy cd_tuple (by rfl) (nob "tuple" (by decide)) bt_tuple (da_cons (dv 5) (da_nil))) (da_nil))))) (da_cons (de_callTy cd_tuple (by rfl) (nob "tuple" (by decide)) bt_tuple (da_cons (dv 6) (da_nil))) (da_nil)))))))))))

abbrev s__law_row : Stmt := topS 44
theorem sc__law_row : FnScope N__law_row ["_law_bag_here", "_law_most"] (defScope s__law_row) := ⟨rfl, rfl, rfl, by decide +kernel, rfl, by decide +kernel, by decide +kernel⟩
theorem ok__law_row {P : Program} {w : World} {K : PySem.W.Frag} {mg : Str → Option Value} {base : Heap} (E : LawEnv K mg) {f : Addr} {fd : FuncData} (c__law_draw : CalD P w K mg base 1 "_law_draw" ["_law_bag_here", "_law_size"] sp__law_draw) (F : Fun K "_law_row" "_law_row" s__law_row f fd) : FnD P w K mg base 2 f fd ["_law_bag_here", "_law_most"] sp__law_row := by
  have nob := E.nob
  refine fnS F sc__law_row rl__law_row fun cdv A outer s H Ex hr => ⟨rd__law_row, ?_, rp__law_row⟩
  have nd := sc__law_row.nd
  have po : PassesOwn (model P w) (cxOf (L2.CX P w) P w K mg base N__law_row "_law_row" (defScope s__law_row) f cdv A outer s H Ex).A (cxOf (L2.CX P w) P w K mg base N__law_row "_law_row" (defScope s__law_row) f cdv A outer s H Ex).env (cxOf (L2.CX P w) P w K mg base N__law_row "_law_row" (defScope s__law_row) f cdv A outer s H Ex).xe := passes_of rfl
  have tk : Takes (cxOf (L2.CX P w) P w K mg base N__law_row "_law_row" (defScope s__law_row) f cdv A outer s H Ex) (WF Ex) := takes_of rfl rfl rfl rfl
  exact ds_cons (ds_set (i := 2) nd rfl (by first | exact Or.inl rfl | exact Or.inr rfl) (de_ix (de_lst (da_cons (de_str [100, 119, 97, 114]) (da_cons (de_str [100, 114]) (da_cons (de_str [100, 100, 119, 114]) (da_cons (de_str [100, 114, 114]) (da_nil)))))) (de_c1 c__law_draw hr (by decide) (by rfl) (fun σ => passAt tk σ) (da_cons (dv 0) (da_cons (de_int) (da_nil)))) (fun _ _ => rfl)))
    (ds_one (ds_ret (de_sm PySem.F.slot_str_join PySem.F.type_str_join md_join (de_str []) (da_cons (de_lc rfl nd (di_range1 (by rfl) (nob "range" (by decide)) (da_cons (de_c1 c__law_draw hr (by decide) (by rfl) (fun σ => passAt tk σ) (da_cons (dv 0) (da_cons (de_op od_add (dv 1) (de_int)) (da_nil)))) (da_nil))) (blkOk_by (own := [("_law_k", 3)]) (N := N__law_row) (sc := defScope s__law_row) (by decide +kernel)) rfl rfl (fun _ _ _ _ _ => dg_nm (i := 3) nd rfl (by first | exact Or.inl rfl | exact Or.inr rfl)) (fun _ _ _ _ _ => dts_nil) (fun _ _ _ _ _ => de_ix (dv 2) (de_c1 c__law_draw hr (by decide) (by rfl) pas0 (da_cons (dv 0) (da_cons (de_callB cd_len (by rfl) (nob "len" (by decide)) bt_len (da_cons (dv 2) (da_nil))) (da_nil)))) (fun _ _ => rfl))) (da_nil)))))

abbrev s_Book_step : Stmt := inClass (topS 26) 1
theorem sc_Book_step : FnScope N_Book_step ["self", "stand", "unit"] (defScope s_Book_step) := ⟨rfl, rfl, rfl, by decide +kernel, rfl, by decide +kernel, by decide +kernel⟩
theorem ok_Book_step {P : Program} {w : World} {K : PySem.W.Frag} {mg : Str → Option Value} {base : Heap} (E : LawEnv K mg) {f : Addr} {fd : FuncData} (m_Limit_counted : MetD P w K mg base 2 "Limit" "counted" ["self", "count", "marks", "unit", "rest"] [] sp_Limit_counted) (F : Fun K "step" "Book.step" s_Book_step f fd) : FnD P w K mg base 3 f fd ["self", "stand", "unit"] sp_Book_step := by
  have nob := E.nob
  refine fnS F sc_Book_step rl_Book_step fun cdv A outer s H Ex hr => ⟨rd_Book_step, ?_, rp_Book_step⟩
  have nd := sc_Book_step.nd
  have po : PassesOwn (model P w) (cxOf (L2.CX P w) P w K mg base N_Book_step "Book.step" (defScope s_Book_step) f cdv A outer s H Ex).A (cxOf (L2.CX P w) P w K mg base N_Book_step "Book.step" (defScope s_Book_step) f cdv A outer s H Ex).env (cxOf (L2.CX P w) P w K mg base N_Book_step "Book.step" (defScope s_Book_step) f cdv A outer s H Ex).xe := passes_of rfl
  have tk : Takes (cxOf (L2.CX P w) P w K mg base N_Book_step "Book.step" (defScope s_Book_step) f cdv A outer s H Ex) (WF Ex) := takes_of rfl rfl rfl rfl
  exact ds_cons (ds_set (i := 3) nd rfl (by first | exact Or.inl rfl | exact Or.inr rfl) (de_if (dt_cmp (odEq hr.units) (dv 2) (de_str [114]) (nomark _)) (de_callB (cd_min2 rfl) (by rfl) (nob "min" (by decide)) bt_min (da_cons (de_op od_add (de_ix (dv 1) (de_int) (fun _ _ => rfl)) (de_int)) (da_cons (de_fld E.f_Book_cap (dv 0)) (da_nil)))) (de_int)))
    (ds_cons (ds_set (i := 4) nd rfl (by first | exact Or.inl rfl | exact Or.inr rfl) (de_lstO (da_nil)))
    (ds_cons (ds_for po rfl (di_zip3 (by rfl) (nob "zip" (by decide)) (da_cons (de_fld E.f_Book_rules (dv 0)) (da_cons (de_ix (dv 1) (de_int) (fun _ _ => rfl)) (da_cons (de_ix (dv 1) (de_int) (fun _ _ => rfl)) (da_nil))))) (dg_tp rfl (dgs_cons (i := 5) nd rfl (by first | exact Or.inl rfl | exact Or.inr rfl) (dgs_cons (i := 6) nd rfl (by first | exact Or.inl rfl | exact Or.inr rfl) (dgs_cons (i := 7) nd rfl (by first | exact Or.inl rfl | exact Or.inr rfl) (dgs_nil))))) (ds_one (ds_expr (de_lm PySem.F.slot_list_append PySem.F.type_list_append md_append (dv 4) (da_cons (de_meth m_Limit_counted hr (by decide) (fun σ => passAt tk σ) (dv 5) (da_cons (dv 6) (da_cons (dv 7) (da_cons (dv 2) (da_cons (dv 3) (da_nil)))))) (da_nil))))))
    (ds_cons (ds_set (i := 8) nd rfl (by first | exact Or.inl rfl | exact Or.inr rfl) (de_tup (da_cons (dv 3) (da_cons (de_callTy cd_tuple (by rfl) (nob "tuple" (by decide)) bt_tuple (da_cons (de_lcK rfl nd (di_keep (dv 4)) (blkOk_by (own := [("item", 9)]) (N := N_Book_step) (sc := defScope s_Book_step) (by decide +kernel)) rfl rfl (fun _ _ _ _ _ => dg_nm (i := 9) nd rfl (by first | exact Or.inl rfl | exact Or.inr rfl)) (fun _ _ _ _ _ => dts_nil) (fun _ _ _ _ _ => de_ix (dv 9) (de_int) (fun _ _ => rfl))) (da_nil))) (da_cons (de_callTy cd_tuple (by rfl) (nob "tuple" (by decide)) bt_tuple (da_cons (de_lcK rfl nd (di_keep (dv 4)) (blkOk_by (own := [("item", 9)]) (N := N_Book_step) (sc := defScope s_Book_step) (by decide +kernel)) rfl rfl (fun _ _ _ _ _ => dg_nm (i := 9) nd rfl (by first | exact Or.inl rfl | exact Or.inr rfl)) (fun _ _ _ _ _ => dts_nil) (fun _ _ _ _ _ => de_ix (dv 9) (de_int) (fun _ _ => rfl))) (da_nil))) (da_nil))))))
    (ds_one (ds_ret (de_tup (da_cons (dv 8) (da_cons (de_callTy cd_tuple (by rfl) (nob "tuple" (by decide)) bt_tuple (da_cons (de_lc rfl nd (di_range1 (by rfl) (nob "range" (by decide)) (da_cons (de_callB cd_len (by rfl) (nob "len" (by decide)) bt_len (da_cons (dv 4) (da_nil))) (da_nil))) (blkOk_by (own := [("number", 10)]) (N := N_Book_step) (sc := defScope s_Book_step) (by decide +kernel)) rfl rfl (fun _ _ _ _ _ => dg_nm (i := 10) nd rfl (by first | exact Or.inl rfl | exact Or.inr rfl)) (fun _ _ _ _ _ => dts_one (dt_val (de_ix (de_ix (dv 4) (dv 10) (fun _ _ => rfl)) (de_int) (fun _ _ => rfl)))) (fun _ _ _ _ _ => dv 10)) (da_nil))) (da_nil)))))))))

abbrev s_check_row : Stmt := topS 16
theorem sc_check_row : FnScope N_check_row ["row"] (defScope s_check_row) := ⟨rfl, rfl, rfl, by decide +kernel, rfl, by decide +kernel, by decide +kernel⟩
theorem ok_check_row {P : Program} {w : World} {K : PySem.W.Frag} {mg : Str → Option Value} {base : Heap} (E : LawEnv K mg) {f : Addr} {fd : FuncData} (c_is_row : CalD P w K mg base 1 "is_row" ["value"] sp_is_row) (x_BadRow : ExcD P w K mg base 1 "BadRow") (F : Fun K "check_row" "check_row" s_check_row f fd) : FnD P w K mg base 3 f fd ["row"] sp_check_row := by
  have nob := E.nob
  refine fnS F sc_check_row rl_check_row fun cdv A outer s H Ex hr => ⟨rd_check_row, ?_, rp_check_row⟩
  have nd := sc_check_row.nd
  have po : PassesOwn (model P w) (cxOf (L2.CX P w) P w K mg base N_check_row "check_row" (defScope s_check_row) f cdv A outer s H Ex).A (cxOf (L2.CX P w) P w K mg base N_check_row "check_row" (defScope s_check_row) f cdv A outer s H Ex).env (cxOf (L2.CX P w) P w K mg base N_check_row "check_row" (defScope s_check_row) f cdv A outer s H Ex).xe := passes_of rfl
  have tk : Takes (cxOf (L2.CX P w) P w K mg base N_check_row "check_row" (defScope s_check_row) f cdv A outer s H Ex) (WF Ex) := takes_of rfl rfl rfl rfl
  exact ds_one (ds_if (dt_not (dt_val (de_c1 c_is_row hr (by decide) (by rfl) (fun σ => passAt tk σ) (da_cons (dv 0) (da_nil))))) (ds_one (ds_raise rfl tk x_BadRow hr (by decide) (by rfl) (dv 0))) (ds_nil))

abbrev s_check_kinds : Stmt := topS 17
theorem sc_check_kinds : FnScope N_check_kinds ["kinds"] (defScope s_check_kinds) := ⟨rfl, rfl, rfl, by decide +kernel, rfl, by decide +kernel, by decide +kernel⟩
theorem ok_check_kinds {P : Program} {w : World} {K : PySem.W.Frag} {mg : Str → Option Value} {base : Heap} (E : LawEnv K mg) {f : Addr} {fd : FuncData} (c_is_kinds : CalD P w K mg base 2 "is_kinds" ["value"] sp_is_kinds) (x_BadKinds : ExcD P w K mg base 1 "BadKinds") (F : Fun K "check_kinds" "check_kinds" s_check_kinds f fd) : FnD P w K mg base 3 f fd ["kinds"] sp_check_kinds := by
  have nob := E.nob
  refine fnS F sc_check_kinds rl_check_kinds fun cdv A outer s H Ex hr => ⟨rd_check_kinds, ?_, rp_check_kinds⟩
  have nd := sc_check_kinds.nd
  have po : PassesOwn (model P w) (cxOf (L2.CX P w) P w K mg base N_check_kinds "check_kinds" (defScope s_check_kinds) f cdv A outer s H Ex).A (cxOf (L2.CX P w) P w K mg base N_check_kinds "check_kinds" (defScope s_check_kinds) f cdv A outer s H Ex).env (cxOf (L2.CX P w) P w K mg base N_check_kinds "check_kinds" (defScope s_check_kinds) f cdv A outer s H Ex).xe := passes_of rfl
  have tk : Takes (cxOf (L2.CX P w) P w K mg base N_check_kinds "check_kinds" (defScope s_check_kinds) f cdv A outer s H Ex) (WF Ex) := takes_of rfl rfl rfl rfl
  exact ds_one (ds_if (dt_not (dt_val (de_c1 c_is_kinds hr (by decide) (by rfl) (fun σ => passAt tk σ) (da_cons (dv 0) (da_nil))))) (ds_one (ds_raise rfl tk x_BadKinds hr (by decide) (by rfl) (dv 0))) (ds_nil))

abbrev s_is_between : Stmt := topS 23
theorem sc_is_between : FnScope N_is_between ["value", "least", "most"] (defScope s_is_between) := ⟨rfl, rfl, rfl, by decide +kernel, rfl, by decide +kernel, by decide +kernel⟩
theorem ok_is_between {P : Program} {w : World} {K : PySem.W.Frag} {mg : Str → Option Value} {base : Heap} (E : LawEnv K mg) {f : Addr} {fd : FuncData} (c_is_integer : CalD P w K mg base 2 "is_integer" ["value", "least"] sp_is_integer) (F : Fun K "is_between" "is_between" s_is_between f fd) : FnD P w K mg base 3 f fd ["value", "least", "most"] sp_is_between := by
  have nob := E.nob
  refine fnS F sc_is_between rl_is_between fun cdv A outer s H Ex hr => ⟨rd_is_between, ?_, rp_is_between⟩
  have nd := sc_is_between.nd
  have po : PassesOwn (model P w) (cxOf (L2.CX P w) P w K mg base N_is_between "is_between" (defScope s_is_between) f cdv A outer s H Ex).A (cxOf (L2.CX P w) P w K mg base N_is_between "is_between" (defScope s_is_between) f cdv A outer s H Ex).env (cxOf (L2.CX P w) P w K mg base N_is_between "is_between" (defScope s_is_between) f cdv A outer s H Ex).xe := passes_of rfl
  have tk : Takes (cxOf (L2.CX P w) P w K mg base N_is_between "is_between" (defScope s_is_between) f cdv A outer s H Ex) (WF Ex) := takes_of rfl rfl rfl rfl
  exact ds_one (ds_ret (de_and (de_c1 c_is_integer hr (by decide) (by rfl) (fun σ => passAt tk σ) (da_cons (dv 0) (da_cons (dv 1) (da_nil)))) (de_one (de_cmp od_le (dv 0) (dv 2) (nomark _)))))

abbrev s__law_stand : Stmt := topS 37
theorem sc__law_stand : FnScope N__law_stand ["_law_plain", "_law_row_here"] (defScope s__law_stand) := ⟨rfl, rfl, rfl, by decide +kernel, rfl, by decide +kernel, by decide +kernel⟩
theorem ok__law_stand {P : Program} {w : World} {K : PySem.W.Frag} {mg : Str → Option Value} {base : Heap} (E : LawEnv K mg) {f : Addr} {fd : FuncData} (c__law_fresh : CalD P w K mg base 1 "_law_fresh" ["_law_plain"] sp__law_fresh) (c__law_step : CalD P w K mg base 2 "_law_step" ["_law_plain", "_law_stand_here", "_law_unit"] sp__law_step) (F : Fun K "_law_stand" "_law_stand" s__law_stand f fd) : FnD P w K mg base 3 f fd ["_law_plain", "_law_row_here"] sp__law_stand := by
  have nob := E.nob
  refine fnS F sc__law_stand rl__law_stand fun cdv A outer s H Ex hr => ⟨rd__law_stand, ?_, rp__law_stand⟩
  have nd := sc__law_stand.nd
  have po : PassesOwn (model P w) (cxOf (L2.CX P w) P w K mg base N__law_stand "_law_stand" (defScope s__law_stand) f cdv A outer s H Ex).A (cxOf (L2.CX P w) P w K mg base N__law_stand "_law_stand" (defScope s__law_stand) f cdv A outer s H Ex).env (cxOf (L2.CX P w) P w K mg base N__law_stand "_law_stand" (defScope s__law_stand) f cdv A outer s H Ex).xe := passes_of rfl
  have tk : Takes (cxOf (L2.CX P w) P w K mg base N__law_stand "_law_stand" (defScope s__law_stand) f cdv A outer s H Ex) (WF Ex) := takes_of rfl rfl rfl rfl
  exact ds_cons (ds_set (i := 2) nd rfl (by first | exact Or.inl rfl | exact Or.inr rfl) (de_c1 c__law_fresh hr (by decide) (by rfl) (fun σ => passAt tk σ) (da_cons (dv 0) (da_nil))))
    (ds_cons (ds_for po rfl (di_any (dv 1)) (dg_nm (i := 3) nd rfl (by first | exact Or.inl rfl | exact Or.inr rfl)) (ds_one (ds_set (i := 2) nd rfl (by first | exact Or.inl rfl | exact Or.inr rfl) (de_ix (de_c1 c__law_step hr (by decide) (by rfl) (fun σ => passAt tk σ) (da_cons (dv 0) (da_cons (dv 2) (da_cons (dv 3) (da_nil))))) (de_int) (fun _ _ => rfl)))))
    (ds_one (ds_ret (dv 2))))

abbrev s__law_stands : Stmt := topS 39
theorem sc__law_stands : FnScope N__law_stands ["_law_plain", "_law_most"] (defScope s__law_stands) := ⟨rfl, rfl, rfl, by decide +kernel, rfl, by decide +kernel, by decide +kernel⟩
theorem ok__law_stands {P : Program} {w : World} {K : PySem.W.Frag} {mg : Str → Option Value} {base : Heap} (E : LawEnv K mg) {f : Addr} {fd : FuncData} (c__law_fresh : CalD P w K mg base 1 "_law_fresh" ["_law_plain"] sp__law_fresh) (c__law_step : CalD P w K mg base 2 "_law_step" ["_law_plain", "_law_stand_here", "_law_unit"] sp__law_step) (F : Fun K "_law_stands" "_law_stands" s__law_stands f fd) : FnD P w K mg base 3 f fd ["_law_plain", "_law_most"] sp__law_stands := by
  have nob := E.nob
  refine fnS F sc__law_stands rl__law_stands fun cdv A outer s H Ex hr => ⟨rd__law_stands, ?_, rp__law_stands⟩
  have nd := sc__law_stands.nd
  have po : PassesOwn (model P w) (cxOf (L2.CX P w) P w K mg base N__law_stands "_law_stands" (defScope s__law_stands) f cdv A outer s H Ex).A (cxOf (L2.CX P w) P w K mg base N__law_stands "_law_stands" (defScope s__law_stands) f cdv A outer s H Ex).env (cxOf (L2.CX P w) P w K mg base N__law_stands "_law_stands" (defScope s__law_stands) f cdv A outer s H Ex).xe := passes_of rfl
  have tk : Takes (cxOf (L2.CX P w) P w K mg base N__law_stands "_law_stands" (defScope s__law_stands) f cdv A outer s H Ex) (WF Ex) := takes_of rfl rfl rfl rfl
  exact ds_cons (ds_set (i := 2) nd rfl (by first | exact Or.inl rfl | exact Or.inr rfl) (de_dct1T hr.units (de_c1 c__law_fresh hr (by decide) (by rfl) (fun σ => passAt tk σ) (da_cons (dv 0) (da_nil))) (de_bl)))
    (ds_cons (ds_set (i := 3) nd rfl (by first | exact Or.inl rfl | exact Or.inr rfl) (de_lstO (da_cons (de_c1 c__law_fresh hr (by decide) (by rfl) (fun σ => passAt tk σ) (da_cons (dv 0) (da_nil))) (da_nil))))
    (ds_cons (ds_set (i := 4) nd rfl (by first | exact Or.inl rfl | exact Or.inr rfl) (de_int))
    (ds_cons (ds_while po (DW.t (dw_and (dt_cmp od_lt (dv 4) (de_callB cd_len (by rfl) (nob "len" (by decide)) bt_len (da_cons (dv 3) (da_nil))) (nomark _)) (dw_and1 (dt_cmp od_le (de_callB cd_len (by rfl) (nob "len" (by decide)) bt_len (da_cons (dv 3) (da_nil))) (dv 1) (nomark _))))) (ds_cons (ds_for po rfl (di_any (de_str [100, 119, 97, 114])) (dg_nm (i := 5) nd rfl (by first | exact Or.inl rfl | exact Or.inr rfl)) (ds_cons (ds_set (i := 6) nd rfl (by first | exact Or.inl rfl | exact Or.inr rfl) (de_ix (de_c1 c__law_step hr (by decide) (by rfl) (fun σ => passAt tk σ) (da_cons (dv 0) (da_cons (de_ix (dv 3) (dv 4) (fun _ _ => rfl)) (da_cons (dv 5) (da_nil))))) (de_int) (fun _ _ => rfl)))
    (ds_one (ds_if (dt_cmp (od_notInT hr.units) (dv 6) (dv 2) (by rfl)) (ds_cons (ds_setT hr.units (dv 2) (dv 6) (de_bl))
    (ds_one (ds_expr (de_lm PySem.F.slot_list_append PySem.F.type_list_append md_append (dv 3) (da_cons (dv 6) (da_nil)))))) (ds_nil)))))
    (ds_one (ds_set (i := 4) nd rfl (by first | exact Or.inl rfl | exact Or.inr rfl) (de_op od_add (dv 4) (de_int))))))
    (ds_one (ds_ret (de_callB (cd_sortL hr.units) (by rfl) (nob "sorted" (by decide)) bt_sorted (da_cons (dv 3) (da_nil))))))))

abbrev s__law_kinds : Stmt := topS 40
theorem sc__law_kinds : FnScope N__law_kinds ["_law_bag_here"] (defScope s__law_kinds) := ⟨rfl, rfl, rfl, by decide +kernel, rfl, by decide +kernel, by decide +kernel⟩
theorem ok__law_kinds {P : Program} {w : World} {K : PySem.W.Frag} {mg : Str → Option Value} {base : Heap} (E : LawEnv K mg) {f : Addr} {fd : FuncData} (c__law_draw : CalD P w K mg base 1 "_law_draw" ["_law_bag_here", "_law_size"] sp__law_draw) (c__law_mixed : CalD P w K mg base 2 "_law_mixed" ["_law_bag_here", "_law_items"] sp__law_mixed) (F : Fun K "_law_kinds" "_law_kinds" s__law_kinds f fd) : FnD P w K mg base 3 f fd ["_law_bag_here"] sp__law_kinds := by
  have nob := E.nob
  refine fnS F sc__law_kinds rl__law_kinds fun cdv A outer s H Ex hr => ⟨rd__law_kinds, ?_, rp__law_kinds⟩
  have nd := sc__law_kinds.nd
  have po : PassesOwn (model P w) (cxOf (L2.CX P w) P w K mg base N__law_kinds "_law_kinds" (defScope s__law_kinds) f cdv A outer s H Ex).A (cxOf (L2.CX P w) P w K mg base N__law_kinds "_law_kinds" (defScope s__law_kinds) f cdv A outer s H Ex).env (cxOf (L2.CX P w) P w K mg base N__law_kinds "_law_kinds" (defScope s__law_kinds) f cdv A outer s H Ex).xe := passes_of rfl
  have tk : Takes (cxOf (L2.CX P w) P w K mg base N__law_kinds "_law_kinds" (defScope s__law_kinds) f cdv A outer s H Ex) (WF Ex) := takes_of rfl rfl rfl rfl
  exact ds_cons (ds_set (i := 1) nd rfl (by first | exact Or.inl rfl | exact Or.inr rfl) (de_ix (de_lst (da_cons (de_str [100]) (da_cons (de_str [100, 119]) (da_cons (de_str [100, 119, 97]) (da_cons (de_str [100, 119, 97, 114]) (da_cons (de_str [119]) (da_cons (de_str [100, 114]) (da_cons (de_str [97, 119]) (da_cons (de_str [114]) (da_nil)))))))))) (de_ix (de_lst (da_cons (de_int) (da_cons (de_int) (da_cons (de_int) (da_cons (de_int) (da_cons (de_int) (da_cons (de_int) (da_cons (de_int) (da_cons (de_int) (da_cons (de_int) (da_cons (de_int) (da_nil)))))))))))) (de_c1 c__law_draw hr (by decide) (by rfl) (fun σ => passAt tk σ) (da_cons (dv 0) (da_cons (de_int) (da_nil)))) (fun _ _ => rfl)) (fun _ _ => rfl)))
    (ds_one (ds_ret (de_sm PySem.F.slot_str_join PySem.F.type_str_join md_join (de_str []) (da_cons (de_c1 c__law_mixed hr (by decide) (by rfl) (fun σ => passAt tk σ) (da_cons (dv 0) (da_cons (de_callTy (cd_listA rfl) (by rfl) (nob "list" (by decide)) bt_list (da_cons (dv 1) (da_nil))) (da_nil)))) (da_nil)))))

abbrev s_Book___init__ : Stmt := inClass (topS 26) 0
theorem sc_Book___init__ : FnScope N_Book___init__ ["self", "limits"] (defScope s_Book___init__) := ⟨rfl, rfl, rfl, by decide +kernel, rfl, by decide +kernel, by decide +kernel⟩
theorem ok_Book___init__ {P : Program} {w : World} {K : PySem.W.Frag} {mg : Str → Option Value} {base : Heap} (E : LawEnv K mg) {f : Addr} {fd : FuncData} (m_Book_step : MetD P w K mg base 3 "Book" "step" ["self", "stand", "unit"] [] sp_Book_step) (x_BadLimits : ExcD P w K mg base 1 "BadLimits") (F : Fun K "__init__" "Book.__init__" s_Book___init__ f fd) : FnD P w K mg base 4 f fd ["self", "limits"] sp_Book___init__ := by
  have nob := E.nob
  refine fnS F sc_Book___init__ rl_Book___init__ fun cdv A outer s H Ex hr => ⟨rd_Book___init__, ?_, rp_Book___init__⟩
  have nd := sc_Book___init__.nd
  have po : PassesOwn (model P w) (cxOf (L2.CX P w) P w K mg base N_Book___init__ "Book.__init__" (defScope s_Book___init__) f cdv A outer s H Ex).A (cxOf (L2.CX P w) P w K mg base N_Book___init__ "Book.__init__" (defScope s_Book___init__) f cdv A outer s H Ex).env (cxOf (L2.CX P w) P w K mg base N_Book___init__ "Book.__init__" (defScope s_Book___init__) f cdv A outer s H Ex).xe := passes_of rfl
  have tk : Takes (cxOf (L2.CX P w) P w K mg base N_Book___init__ "Book.__init__" (defScope s_Book___init__) f cdv A outer s H Ex) (WF Ex) := takes_of rfl rfl rfl rfl
  exact ds_cons (ds_if (DW.t (dw_or (dt_not (dt_val (de_callB cd_isi (by rfl) (nob "isinstance" (by decide)) bt_isinstance (da_cons (dv 1) (da_cons (de_bltn (v := .ty "list") (by rfl) (nob "list" (by decide)) bt_list rfl (fun _ => .ty _)) (da_nil)))))) (dw_or1 (dt_not (dt_chain od_le od_le (de_int) (de_callB cd_len (by rfl) (nob "len" (by decide)) bt_len (da_cons (dv 1) (da_nil))) (de_gint (by rfl) E.c_MOST_LIMITS)))))) (ds_one (ds_raise rfl tk x_BadLimits hr (by decide) (by rfl) (dv 1))) (ds_nil))
    (ds_cons (ds_if (dt_not (dt_val (de_callB (cd_all rfl) (by rfl) (nob "all" (by decide)) bt_all (da_cons (de_lc rfl nd (di_any (dv 1)) (blkOk_by (own := [("limit", 2)]) (N := N_Book___init__) (sc := defScope s_Book___init__) (by decide +kernel)) rfl rfl (fun _ _ _ _ _ => dg_nm (i := 2) nd rfl (by first | exact Or.inl rfl | exact Or.inr rfl)) (fun _ _ _ _ _ => dts_nil) (fun _ _ _ _ _ => de_isC E.i_Limit (by rfl) (nob "isinstance" (by decide)) (by rfl) (dv 2))) (da_nil))))) (ds_one (ds_raise rfl tk x_BadLimits hr (by decide) (by rfl) (dv 1))) (ds_nil))
    (ds_cons (ds_setF E.f_Book_rules (dv 0) (de_callTy cd_tuple (by rfl) (nob "tuple" (by decide)) bt_tuple (da_cons (dv 1) (da_nil))))
    (ds_cons (ds_setF E.f_Book_cap (dv 0) (de_op od_add (de_int) (de_callB (cd_maxL rfl) (by rfl) (nob "max" (by decide)) bt_max (da_cons (de_lc3 rfl nd (di_any (dv 1)) (blkOk_by (own := [("limit", 2), ("way", 3), ("length", 4)]) (N := N_Book___init__) (sc := defScope s_Book___init__) (by decide +kernel)) rfl rfl rfl rfl (by decide) (by decide) (fun _ _ _ _ _ => dg_nm (i := 2) nd rfl (by first | exact Or.inl rfl | exact Or.inr rfl)) (fun _ _ _ _ _ => dts_nil) (fun _ _ _ _ _ => di_any (de_fld E.f_Limit_ends (dv 2))) (fun _ _ _ _ _ => dg_nm (i := 3) nd rfl (by first | exact Or.inl rfl | exact Or.inr rfl)) (fun _ _ _ _ _ => dts_nil) (fun _ _ _ _ _ => di_any (dv 3)) (fun _ _ _ _ _ => dg_nm (i := 4) nd rfl (by first | exact Or.inl rfl | exact Or.inr rfl)) (fun _ _ _ _ _ => dts_nil) (fun _ _ _ _ _ => dv 4)) (da_nil)))))
    (ds_cons (ds_set (i := 5) nd rfl (by first | exact Or.inl rfl | exact Or.inr rfl) (de_callTy cd_tuple (by rfl) (nob "tuple" (by decide)) bt_tuple (da_cons (de_lc rfl nd (di_any (dv 1)) (blkOk_by (own := [("limit", 2)]) (N := N_Book___init__) (sc := defScope s_Book___init__) (by decide +kernel)) rfl rfl (fun _ _ _ _ _ => dg_nm (i := 2) nd rfl (by first | exact Or.inl rfl | exact Or.inr rfl)) (fun _ _ _ _ _ => dts_nil) (fun _ _ _ _ _ => de_int)) (da_nil))))
    (ds_cons (ds_setF E.f_Book_first (dv 0) (de_tup (da_cons (de_int) (da_cons (dv 5) (da_cons (de_callTy cd_tuple (by rfl) (nob "tuple" (by decide)) bt_tuple (da_cons (de_lc rfl nd (di_any (dv 1)) (blkOk_by (own := [("limit", 2)]) (N := N_Book___init__) (sc := defScope s_Book___init__) (by decide +kernel)) rfl rfl (fun _ _ _ _ _ => dg_nm (i := 2) nd rfl (by first | exact Or.inl rfl | exact Or.inr rfl)) (fun _ _ _ _ _ => dts_nil) (fun _ _ _ _ _ => de_callTy cd_tuple (by rfl) (nob "tuple" (by decide)) bt_tuple (da_cons (de_lc rfl nd (di_any (de_fld E.f_Limit_ends (dv 2))) (blkOk_by (own := [("way", 3)]) (by kernel_rfl)) rfl rfl (fun _ _ _ _ _ => dg_nm (i := 3) nd rfl (by first | exact Or.inl rfl | exact Or.inr rfl)) (fun _ _ _ _ _ => dts_nil) (fun _ _ _ _ _ => de_int)) (da_nil)))) (da_nil))) (da_nil))))))
    (ds_cons (ds_setF E.f_Book_steps (dv 0) (de_dct0T))
    (ds_cons (ds_set (i := 6) nd rfl (by first | exact Or.inl rfl | exact Or.inr rfl) (de_lstO (da_cons (de_fld E.f_Book_first (dv 0)) (da_nil))))
    (ds_one (ds_while po (dt_tru (dv 6)) (ds_cons (ds_set (i := 7) nd rfl (by first | exact Or.inl rfl | exact Or.inr rfl) (de_lm0 PySem.F.slot_list_pop PySem.F.type_list_pop md_pop (dv 6)))
    (ds_cons (ds_if (dt_cmp (od_notInT hr.units) (dv 7) (de_fld E.f_Book_steps (dv 0)) (by rfl)) (ds_cons (ds_setT hr.units (de_fld E.f_Book_steps (dv 0)) (dv 7) (de_dc rfl nd (di_any (de_gstr (by rfl) E.c_LETTERS)) (blkOk_by (own := [("unit", 8)]) (N := N_Book___init__) (sc := defScope s_Book___init__) (by decide +kernel)) rfl rfl (fun _ _ _ _ _ => dg_nm (i := 8) nd rfl (by first | exact Or.inl rfl | exact Or.inr rfl)) (fun _ _ _ _ _ => dts_nil) (fun _ _ _ _ _ => dv 8) (fun _ _ _ _ _ => de_meth m_Book_step hr (by decide) pas0 (dv 0) (da_cons (dv 7) (da_cons (dv 8) (da_nil))))))
    (ds_one (ds_expr (de_lm PySem.F.slot_list_extend PySem.F.type_list_extend md_extend (dv 6) (da_cons (de_lc rfl nd (di_any (de_gstr (by rfl) E.c_LETTERS)) (blkOk_by (own := [("unit", 8)]) (N := N_Book___init__) (sc := defScope s_Book___init__) (by decide +kernel)) rfl rfl (fun _ _ _ _ _ => dg_nm (i := 8) nd rfl (by first | exact Or.inl rfl | exact Or.inr rfl)) (fun _ _ _ _ _ => dts_nil) (fun _ _ _ _ _ => de_ix (de_ixK hr.units (de_ixT hr.units (de_fld E.f_Book_steps (dv 0)) (dv 7) (fun _ _ => rfl)) (dv 8) (fun _ _ => rfl)) (de_int) (fun _ _ => rfl))) (da_nil)))))) (ds_nil))
    (ds_one (ds_if (dt_cmp od_gt (de_callB cd_lenD (by rfl) (nob "len" (by decide)) bt_len (da_cons (de_fld E.f_Book_steps (dv 0)) (da_nil))) (de_gint (by rfl) E.c_MOST_STANDS) (nomark _)) (ds_one (ds_never)) (ds_nil))))))))))))))

abbrev s_Book_stand : Stmt := inClass (topS 26) 9
theorem sc_Book_stand : FnScope N_Book_stand ["self", "row"] (defScope s_Book_stand) := ⟨rfl, rfl, rfl, by decide +kernel, rfl, by decide +kernel, by decide +kernel⟩
theorem ok_Book_stand {P : Program} {w : World} {K : PySem.W.Frag} {mg : Str → Option Value} {base : Heap} (E : LawEnv K mg) {f : Addr} {fd : FuncData} (c_check_row : CalD P w K mg base 3 "check_row" ["row"] sp_check_row) (F : Fun K "stand" "Book.stand" s_Book_stand f fd) : FnD P w K mg base 4 f fd ["self", "row"] sp_Book_stand := by
  have nob := E.nob
  refine fnS F sc_Book_stand rl_Book_stand fun cdv A outer s H Ex hr => ⟨rd_Book_stand, ?_, rp_Book_stand⟩
  have nd := sc_Book_stand.nd
  have po : PassesOwn (model P w) (cxOf (L2.CX P w) P w K mg base N_Book_stand "Book.stand" (defScope s_Book_stand) f cdv A outer s H Ex).A (cxOf (L2.CX P w) P w K mg base N_Book_stand "Book.stand" (defScope s_Book_stand) f cdv A outer s H Ex).env (cxOf (L2.CX P w) P w K mg base N_Book_stand "Book.stand" (defScope s_Book_stand) f cdv A outer s H Ex).xe := passes_of rfl
  have tk : Takes (cxOf (L2.CX P w) P w K mg base N_Book_stand "Book.stand" (defScope s_Book_stand) f cdv A outer s H Ex) (WF Ex) := takes_of rfl rfl rfl rfl
  exact ds_cons (ds_expr (de_c1 c_check_row hr (by decide) (by rfl) (fun σ => passAt tk σ) (da_cons (dv 1) (da_nil))))
    (ds_cons (ds_set (i := 2) nd rfl (by first | exact Or.inl rfl | exact Or.inr rfl) (de_fld E.f_Book_first (dv 0)))
    (ds_cons (ds_for po rfl (di_any (dv 1)) (dg_nm (i := 3) nd rfl (by first | exact Or.inl rfl | exact Or.inr rfl)) (ds_one (ds_set (i := 2) nd rfl (by first | exact Or.inl rfl | exact Or.inr rfl) (de_ix (de_ixK hr.units (de_ixT hr.units (de_fld E.f_Book_steps (dv 0)) (dv 2) (fun _ _ => rfl)) (dv 3) (fun _ _ => rfl)) (de_int) (fun _ _ => rfl)))))
    (ds_one (ds_ret (dv 2)))))

abbrev s_is_way : Stmt := topS 24
theorem sc_is_way : FnScope N_is_way ["value"] (defScope s_is_way) := ⟨rfl, rfl, rfl, by decide +kernel, rfl, by decide +kernel, by decide +kernel⟩
theorem ok_is_way {P : Program} {w : World} {K : PySem.W.Frag} {mg : Str → Option Value} {base : Heap} (E : LawEnv K mg) {f : Addr} {fd : FuncData} (c_is_between : CalD P w K mg base 3 "is_between" ["value", "least", "most"] sp_is_between) (F : Fun K "is_way" "is_way" s_is_way f fd) : FnD P w K mg base 4 f fd ["value"] sp_is_way := by
  have nob := E.nob
  refine fnS F sc_is_way rl_is_way fun cdv A outer s H Ex hr => ⟨rd_is_way, ?_, rp_is_way⟩
  have nd := sc_is_way.nd
  have po : PassesOwn (model P w) (cxOf (L2.CX P w) P w K mg base N_is_way "is_way" (defScope s_is_way) f cdv A outer s H Ex).A (cxOf (L2.CX P w) P w K mg base N_is_way "is_way" (defScope s_is_way) f cdv A outer s H Ex).env (cxOf (L2.CX P w) P w K mg base N_is_way "is_way" (defScope s_is_way) f cdv A outer s H Ex).xe := passes_of rfl
  have tk : Takes (cxOf (L2.CX P w) P w K mg base N_is_way "is_way" (defScope s_is_way) f cdv A outer s H Ex) (WF Ex) := takes_of rfl rfl rfl rfl
  exact ds_cons (ds_if (DW.t (dw_or (dt_not (dt_val (de_callB cd_isi (by rfl) (nob "isinstance" (by decide)) bt_isinstance (da_cons (dv 0) (da_cons (de_bltn (v := .ty "list") (by rfl) (nob "list" (by decide)) bt_list rfl (fun _ => .ty _)) (da_nil)))))) (dw_or1 (dt_not (dt_chain od_le od_le (de_int) (de_callB cd_len (by rfl) (nob "len" (by decide)) bt_len (da_cons (dv 0) (da_nil))) (de_int)))))) (ds_one (ds_ret (de_bl))) (ds_nil))
    (ds_one (ds_ret (de_callB (cd_all rfl) (by rfl) (nob "all" (by decide)) bt_all (da_cons (de_lcK rfl nd (di_keep (dv 0)) (blkOk_by (own := [("length", 1)]) (N := N_is_way) (sc := defScope s_is_way) (by decide +kernel)) rfl rfl (fun _ _ _ _ _ => dg_nm (i := 1) nd rfl (by first | exact Or.inl rfl | exact Or.inr rfl)) (fun _ _ _ _ _ => dts_nil) (fun _ _ _ _ _ => de_c1 c_is_between hr (by decide) (by rfl) pas0 (da_cons (dv 1) (da_cons (de_int) (da_cons (de_gint (by rfl) E.c_LONGEST_REST) (da_nil)))))) (da_nil)))))

abbrev s__law_breaches : Stmt := topS 38
theorem sc__law_breaches : FnScope N__law_breaches ["_law_plain", "_law_before", "_law_row_here"] (defScope s__law_breaches) := ⟨rfl, rfl, rfl, by decide +kernel, rfl, by decide +kernel, by decide +kernel⟩
theorem ok__law_breaches {P : Program} {w : World} {K : PySem.W.Frag} {mg : Str → Option Value} {base : Heap} (E : LawEnv K mg) {f : Addr} {fd : FuncData} (c__law_stand : CalD P w K mg base 3 "_law_stand" ["_law_plain", "_law_row_here"] sp__law_stand) (c__law_step : CalD P w K mg base 2 "_law_step" ["_law_plain", "_law_stand_here", "_law_unit"] sp__law_step) (F : Fun K "_law_breaches" "_law_breaches" s__law_breaches f fd) : FnD P w K mg base 4 f fd ["_law_plain", "_law_before", "_law_row_here"] sp__law_breaches := by
  have nob := E.nob
  refine fnS F sc__law_breaches rl__law_breaches fun cdv A outer s H Ex hr => ⟨rd__law_breaches, ?_, rp__law_breaches⟩
  have nd := sc__law_breaches.nd
  have po : PassesOwn (model P w) (cxOf (L2.CX P w) P w K mg base N__law_breaches "_law_breaches" (defScope s__law_breaches) f cdv A outer s H Ex).A (cxOf (L2.CX P w) P w K mg base N__law_breaches "_law_breaches" (defScope s__law_breaches) f cdv A outer s H Ex).env (cxOf (L2.CX P w) P w K mg base N__law_breaches "_law_breaches" (defScope s__law_breaches) f cdv A outer s H Ex).xe := passes_of rfl
  have tk : Takes (cxOf (L2.CX P w) P w K mg base N__law_breaches "_law_breaches" (defScope s__law_breaches) f cdv A outer s H Ex) (WF Ex) := takes_of rfl rfl rfl rfl
  exact ds_cons (ds_set (i := 3) nd rfl (by first | exact Or.inl rfl | exact Or.inr rfl) (de_c1 c__law_stand hr (by decide) (by rfl) (fun σ => passAt tk σ) (da_cons (dv 0) (da_cons (dv 1) (da_nil)))))
    (ds_cons (ds_set (i := 4) nd rfl (by first | exact Or.inl rfl | exact Or.inr rfl) (de_lst (da_nil)))
    (ds_cons (ds_for po rfl (di_range1 (by rfl) (nob "range" (by decide)) (da_cons (de_callB cd_len (by rfl) (nob "len" (by decide)) bt_len (da_cons (dv 2) (da_nil))) (da_nil))) (dg_nm (i := 5) nd rfl (by first | exact Or.inl rfl | exact Or.inr rfl)) (ds_cons (ds_asg (de_c1 c__law_step hr (by decide) (by rfl) (fun σ => passAt tk σ) (da_cons (dv 0) (da_cons (dv 3) (da_cons (de_ix (dv 2) (dv 5) (fun _ _ => rfl)) (da_nil))))) (dg_tp rfl (dgs_cons (i := 3) nd rfl (by first | exact Or.inl rfl | exact Or.inr rfl) (dgs_cons (i := 6) nd rfl (by first | exact Or.inl rfl | exact Or.inr rfl) (dgs_nil)))))
    (ds_one (ds_set (i := 4) nd rfl (by first | exact Or.inl rfl | exact Or.inr rfl) (de_op od_add (dv 4) (de_lc rfl nd (di_any (dv 6)) (blkOk_by (own := [("_law_limit_here", 7)]) (N := N__law_breaches) (sc := defScope s__law_breaches) (by decide +kernel)) rfl rfl (fun _ _ _ _ _ => dg_nm (i := 7) nd rfl (by first | exact Or.inl rfl | exact Or.inr rfl)) (fun _ _ _ _ _ => dts_nil) (fun _ _ _ _ _ => de_tup (da_cons (dv 5) (da_cons (dv 7) (da_nil))))))))))
    (ds_one (ds_ret (dv 4)))))

abbrev s__law_limit : Stmt := topS 41
theorem sc__law_limit : FnScope N__law_limit ["_law_bag_here", "_law_size", "_law_longest"] (defScope s__law_limit) := ⟨rfl, rfl, rfl, by decide +kernel, rfl, by decide +kernel, by decide +kernel⟩
theorem ok__law_limit {P : Program} {w : World} {K : PySem.W.Frag} {mg : Str → Option Value} {base : Heap} (E : LawEnv K mg) {f : Addr} {fd : FuncData} (c__law_draw : CalD P w K mg base 1 "_law_draw" ["_law_bag_here", "_law_size"] sp__law_draw) (c__law_kinds : CalD P w K mg base 3 "_law_kinds" ["_law_bag_here"] sp__law_kinds) (F : Fun K "_law_limit" "_law_limit" s__law_limit f fd) : FnD P w K mg base 4 f fd ["_law_bag_here", "_law_size", "_law_longest"] sp__law_limit := by
  have nob := E.nob
  refine fnS F sc__law_limit rl__law_limit fun cdv A outer s H Ex hr => ⟨rd__law_limit, ?_, rp__law_limit⟩
  have nd := sc__law_limit.nd
  have po : PassesOwn (model P w) (cxOf (L2.CX P w) P w K mg base N__law_limit "_law_limit" (defScope s__law_limit) f cdv A outer s H Ex).A (cxOf (L2.CX P w) P w K mg base N__law_limit "_law_limit" (defScope s__law_limit) f cdv A outer s H Ex).env (cxOf (L2.CX P w) P w K mg base N__law_limit "_law_limit" (defScope s__law_limit) f cdv A outer s H Ex).xe := passes_of rfl
  have tk : Takes (cxOf (L2.CX P w) P w K mg base N__law_limit "_law_limit" (defScope s__law_limit) f cdv A outer s H Ex) (WF Ex) := takes_of rfl rfl rfl rfl
  exact ds_cons (ds_set (i := 3) nd rfl (by first | exact Or.inl rfl | exact Or.inr rfl) (de_lstO (da_nil)))
    (ds_cons (ds_for po rfl (di_range1 (by rfl) (nob "range" (by decide)) (da_cons (de_op od_add (de_int) (de_c1 c__law_draw hr (by decide) (by rfl) (fun σ => passAt tk σ) (da_cons (dv 0) (da_cons (de_int) (da_nil))))) (da_nil))) (dg_nm (i := 4) nd rfl (by first | exact Or.inl rfl | exact Or.inr rfl)) (ds_cons (ds_set (i := 5) nd rfl (by first | exact Or.inl rfl | exact Or.inr rfl) (de_lst (da_cons (de_op od_add (de_int) (de_c1 c__law_draw hr (by decide) (by rfl) (fun σ => passAt tk σ) (da_cons (dv 0) (da_cons (dv 2) (da_nil))))) (da_nil))))
    (ds_cons (ds_if (dt_cmp (odEq hr.units) (de_c1 c__law_draw hr (by decide) (by rfl) (fun σ => passAt tk σ) (da_cons (dv 0) (da_cons (de_int) (da_nil)))) (de_int) (nomark _)) (ds_one (ds_set (i := 5) nd rfl (by first | exact Or.inl rfl | exact Or.inr rfl) (de_op od_add (dv 5) (de_lst (da_cons (de_op od_add (de_int) (de_c1 c__law_draw hr (by decide) (by rfl) (fun σ => passAt tk σ) (da_cons (dv 0) (da_cons (dv 2) (da_nil))))) (da_nil)))))) (ds_nil))
    (ds_one (ds_expr (de_lm PySem.F.slot_list_append PySem.F.type_list_append md_append (dv 3) (da_cons (dv 5) (da_nil))))))))
    (ds_one (ds_ret (de_tup (da_cons (de_c1 c__law_kinds hr (by decide) (by rfl) (fun σ => passAt tk σ) (da_cons (dv 0) (da_nil))) (da_cons (de_c1 c__law_draw hr (by decide) (by rfl) (fun σ => passAt tk σ) (da_cons (dv 0) (da_cons (dv 1) (da_nil)))) (da_cons (de_frz (dv 3)) (da_nil))))))))

abbrev s_Limit___init__ : Stmt := inClass (topS 25) 0
theorem sc_Limit___init__ : FnScope N_Limit___init__ ["self", "kinds", "most", "ways"] (defScope s_Limit___init__) := ⟨rfl, rfl, rfl, by decide +kernel, rfl, by decide +kernel, by decide +kernel⟩
theorem ok_Limit___init__ {P : Program} {w : World} {K : PySem.W.Frag} {mg : Str → Option Value} {base : Heap} (E : LawEnv K mg) {f : Addr} {fd : FuncData} (c_check_kinds : CalD P w K mg base 3 "check_kinds" ["kinds"] sp_check_kinds) (c_is_between : CalD P w K mg base 3 "is_between" ["value", "least", "most"] sp_is_between) (c_is_way : CalD P w K mg base 4 "is_way" ["value"] sp_is_way) (x_BadMost : ExcD P w K mg base 1 "BadMost") (x_BadWays : ExcD P w K mg base 1 "BadWays") (F : Fun K "__init__" "Limit.__init__" s_Limit___init__ f fd) : FnD P w K mg base 5 f fd ["self", "kinds", "most", "ways"] sp_Limit___init__ := by
  have nob := E.nob
  refine fnS F sc_Limit___init__ rl_Limit___init__ fun cdv A outer s H Ex hr => ⟨rd_Limit___init__, ?_, rp_Limit___init__⟩
  have nd := sc_Limit___init__.nd
  have po : PassesOwn (model P w) (cxOf (L2.CX P w) P w K mg base N_Limit___init__ "Limit.__init__" (defScope s_Limit___init__) f cdv A outer s H Ex).A (cxOf (L2.CX P w) P w K mg base N_Limit___init__ "Limit.__init__" (defScope s_Limit___init__) f cdv A outer s H Ex).env (cxOf (L2.CX P w) P w K mg base N_Limit___init__ "Limit.__init__" (defScope s_Limit___init__) f cdv A outer s H Ex).xe := passes_of rfl
  have tk : Takes (cxOf (L2.CX P w) P w K mg base N_Limit___init__ "Limit.__init__" (defScope s_Limit___init__) f cdv A outer s H Ex) (WF Ex) := takes_of rfl rfl rfl rfl
  exact ds_cons (ds_expr (de_c1 c_check_kinds hr (by decide) (by rfl) (fun σ => passAt tk σ) (da_cons (dv 1) (da_nil))))
    (ds_cons (ds_if (dt_not (dt_val (de_c1 c_is_between hr (by decide) (by rfl) (fun σ => passAt tk σ) (da_cons (dv 2) (da_cons (de_int) (da_cons (de_gint (by rfl) E.c_GREATEST_MOST) (da_nil))))))) (ds_one (ds_raise rfl tk x_BadMost hr (by decide) (by rfl) (dv 2))) (ds_nil))
    (ds_cons (ds_if (DW.t (dw_or (dt_not (dt_val (de_callB cd_isi (by rfl) (nob "isinstance" (by decide)) bt_isinstance (da_cons (dv 3) (da_cons (de_bltn (v := .ty "list") (by rfl) (nob "list" (by decide)) bt_list rfl (fun _ => .ty _)) (da_nil)))))) (dw_or (dt_not (dt_chain od_le od_le (de_int) (de_callB cd_len (by rfl) (nob "len" (by decide)) bt_len (da_cons (dv 3) (da_nil))) (de_int))) (dw_or1 (dt_not (dt_val (de_callB (cd_all rfl) (by rfl) (nob "all" (by decide)) bt_all (da_cons (de_lcK rfl nd (di_keep (dv 3)) (blkOk_by (own := [("way", 4)]) (N := N_Limit___init__) (sc := defScope s_Limit___init__) (by decide +kernel)) rfl rfl (fun _ _ _ _ _ => dg_nm (i := 4) nd rfl (by first | exact Or.inl rfl | exact Or.inr rfl)) (fun _ _ _ _ _ => dts_nil) (fun _ _ _ _ _ => de_c1 c_is_way hr (by decide) (by rfl) pas0 (da_cons (dv 4) (da_nil)))) (da_nil))))))))) (ds_one (ds_raise rfl tk x_BadWays hr (by decide) (by rfl) (dv 3))) (ds_nil))
    (ds_cons (ds_setF E.f_Limit_letters (dv 0) (de_sm PySem.F.slot_str_join PySem.F.type_str_join md_join (de_str []) (da_cons (de_lc rfl nd (di_any (de_gstr (by rfl) E.c_LETTERS)) (blkOk_by (own := [("letter", 5)]) (N := N_Limit___init__) (sc := defScope s_Limit___init__) (by decide +kernel)) rfl rfl (fun _ _ _ _ _ => dg_nm (i := 5) nd rfl (by first | exact Or.inl rfl | exact Or.inr rfl)) (fun _ _ _ _ _ => dts_one (dt_cmp od_in (dv 5) (dv 1) (by rfl))) (fun _ _ _ _ _ => dv 5)) (da_nil))))
    (ds_cons (ds_setF E.f_Limit_bound (dv 0) (dv 2))
    (ds_one (ds_setF E.f_Limit_ends (dv 0) (de_lcK rfl nd (di_keep (dv 3)) (blkOk_by (own := [("way", 4)]) (N := N_Limit___init__) (sc := defScope s_Limit___init__) (by decide +kernel)) rfl rfl (fun _ _ _ _ _ => dg_nm (i := 4) nd rfl (by first | exact Or.inl rfl | exact Or.inr rfl)) (fun _ _ _ _ _ => dts_nil) (fun _ _ _ _ _ => de_callTy (cd_listA rfl) (by rfl) (nob "list" (by decide)) bt_list (da_cons (dv 4) (da_nil))))))))))

abbrev s_Book_counts : Stmt := inClass (topS 26) 10
theorem sc_Book_counts : FnScope N_Book_counts ["self", "row"] (defScope s_Book_counts) := ⟨rfl, rfl, rfl, by decide +kernel, rfl, by decide +kernel, by decide +kernel⟩
theorem ok_Book_counts {P : Program} {w : World} {K : PySem.W.Frag} {mg : Str → Option Value} {base : Heap} (E : LawEnv K mg) {f : Addr} {fd : FuncData} (m_Book_stand : MetD P w K mg base 4 "Book" "stand" ["self", "row"] [] sp_Book_stand) (F : Fun K "counts" "Book.counts" s_Book_counts f fd) : FnD P w K mg base 5 f fd ["self", "row"] sp_Book_counts := by
  have nob := E.nob
  refine fnS F sc_Book_counts rl_Book_counts fun cdv A outer s H Ex hr => ⟨rd_Book_counts, ?_, rp_Book_counts⟩
  have nd := sc_Book_counts.nd
  have po : PassesOwn (model P w) (cxOf (L2.CX P w) P w K mg base N_Book_counts "Book.counts" (defScope s_Book_counts) f cdv A outer s H Ex).A (cxOf (L2.CX P w) P w K mg base N_Book_counts "Book.counts" (defScope s_Book_counts) f cdv A outer s H Ex).env (cxOf (L2.CX P w) P w K mg base N_Book_counts "Book.counts" (defScope s_Book_counts) f cdv A outer s H Ex).xe := passes_of rfl
  have tk : Takes (cxOf (L2.CX P w) P w K mg base N_Book_counts "Book.counts" (defScope s_Book_counts) f cdv A outer s H Ex) (WF Ex) := takes_of rfl rfl rfl rfl
  exact ds_one (ds_ret (de_ix (de_meth m_Book_stand hr (by decide) (fun σ => passAt tk σ) (dv 0) (da_cons (dv 1) (da_nil))) (de_int) (fun _ _ => rfl)))

abbrev s_Book_breaches : Stmt := inClass (topS 26) 11
theorem sc_Book_breaches : FnScope N_Book_breaches ["self", "row", "before"] (defScope s_Book_breaches) := ⟨rfl, rfl, rfl, by decide +kernel, rfl, by decide +kernel, by decide +kernel⟩
theorem ok_Book_breaches {P : Program} {w : World} {K : PySem.W.Frag} {mg : Str → Option Value} {base : Heap} (E : LawEnv K mg) {f : Addr} {fd : FuncData} (c_check_row : CalD P w K mg base 3 "check_row" ["row"] sp_check_row) (m_Book_stand : MetD P w K mg base 4 "Book" "stand" ["self", "row"] [] sp_Book_stand) (F : FunD K "breaches" "Book.breaches" (defArgs s_Book_breaches) (defBody s_Book_breaches) (defScope s_Book_breaches) [.str ⟨([] : List Nat).toArray⟩] [] f fd) : FnD P w K mg base 5 f fd ["self", "row", "before"] sp_Book_breaches := by
  have nob := E.nob
  refine fnSd F sc_Book_breaches rl_Book_breaches fun cdv A outer s H Ex hr => ⟨rd_Book_breaches, ?_, rp_Book_breaches⟩
  have nd := sc_Book_breaches.nd
  have po : PassesOwn (model P w) (cxOf (L2.CX P w) P w K mg base N_Book_breaches "Book.breaches" (defScope s_Book_breaches) f cdv A outer s H Ex).A (cxOf (L2.CX P w) P w K mg base N_Book_breaches "Book.breaches" (defScope s_Book_breaches) f cdv A outer s H Ex).env (cxOf (L2.CX P w) P w K mg base N_Book_breaches "Book.breaches" (defScope s_Book_breaches) f cdv A outer s H Ex).xe := passes_of rfl
  have tk : Takes (cxOf (L2.CX P w) P w K mg base N_Book_breaches "Book.breaches" (defScope s_Book_breaches) f cdv A outer s H Ex) (WF Ex) := takes_of rfl rfl rfl rfl
  exact ds_cons (ds_expr (de_c1 c_check_row hr (by decide) (by rfl) (fun σ => passAt tk σ) (da_cons (dv 1) (da_nil))))
    (ds_cons (ds_set (i := 3) nd rfl (by first | exact Or.inl rfl | exact Or.inr rfl) (de_meth m_Book_stand hr (by decide) (fun σ => passAt tk σ) (dv 0) (da_cons (dv 2) (da_nil))))
    (ds_cons (ds_set (i := 4) nd rfl (by first | exact Or.inl rfl | exact Or.inr rfl) (de_lstO (da_nil)))
    (ds_cons (ds_for po rfl (di_range1 (by rfl) (nob "range" (by decide)) (da_cons (de_callB cd_len (by rfl) (nob "len" (by decide)) bt_len (da_cons (dv 1) (da_nil))) (da_nil))) (dg_nm (i := 5) nd rfl (by first | exact Or.inl rfl | exact Or.inr rfl)) (ds_cons (ds_asg (de_ixK hr.units (de_ixT hr.units (de_fld E.f_Book_steps (dv 0)) (dv 3) (fun _ _ => rfl)) (de_ix (dv 1) (dv 5) (fun _ _ => rfl)) (fun _ _ => rfl)) (dg_tp rfl (dgs_cons (i := 3) nd rfl (by first | exact Or.inl rfl | exact Or.inr rfl) (dgs_cons (i := 6) nd rfl (by first | exact Or.inl rfl | exact Or.inr rfl) (dgs_nil)))))
    (ds_one (ds_expr (de_lm PySem.F.slot_list_extend PySem.F.type_list_extend md_extend (dv 4) (da_cons (de_lc rfl nd (di_any (dv 6)) (blkOk_by (own := [("number", 7)]) (N := N_Book_breaches) (sc := defScope s_Book_breaches) (by decide +kernel)) rfl rfl (fun _ _ _ _ _ => dg_nm (i := 7) nd rfl (by first | exact Or.inl rfl | exact Or.inr rfl)) (fun _ _ _ _ _ => dts_nil) (fun _ _ _ _ _ => de_tup (da_cons (dv 5) (da_cons (dv 7) (da_nil))))) (da_nil)))))))
    (ds_one (ds_ret (dv 4))))))

abbrev s__law_book : Stmt := topS 42
theorem sc__law_book : FnScope N__law_book ["_law_bag_here", "_law_most_stands"] (defScope s__law_book) := ⟨rfl, rfl, rfl, by decide +kernel, rfl, by decide +kernel, by decide +kernel⟩
theorem ok__law_book {P : Program} {w : World} {K : PySem.W.Frag} {mg : Str → Option Value} {base : Heap} (E : LawEnv K mg) {f : Addr} {fd : FuncData} (c__law_draw : CalD P w K mg base 1 "_law_draw" ["_law_bag_here", "_law_size"] sp__law_draw) (c__law_limit : CalD P w K mg base 4 "_law_limit" ["_law_bag_here", "_law_size", "_law_longest"] sp__law_limit) (c__law_stands : CalD P w K mg base 3 "_law_stands" ["_law_plain", "_law_most"] sp__law_stands) (F : Fun K "_law_book" "_law_book" s__law_book f fd) : FnD P w K mg base 5 f fd ["_law_bag_here", "_law_most_stands"] sp__law_book := by
  have nob := E.nob
  refine fnS F sc__law_book rl__law_book fun cdv A outer s H Ex hr => ⟨rd__law_book, ?_, rp__law_book⟩
  have nd := sc__law_book.nd
  have po : PassesOwn (model P w) (cxOf (L2.CX P w) P w K mg base N__law_book "_law_book" (defScope s__law_book) f cdv A outer s H Ex).A (cxOf (L2.CX P w) P w K mg base N__law_book "_law_book" (defScope s__law_book) f cdv A outer s H Ex).env (cxOf (L2.CX P w) P w K mg base N__law_book "_law_book" (defScope s__law_book) f cdv A outer s H Ex).xe := passes_of rfl
  have tk : Takes (cxOf (L2.CX P w) P w K mg base N__law_book "_law_book" (defScope s__law_book) f cdv A outer s H Ex) (WF Ex) := takes_of rfl rfl rfl rfl
  exact ds_cons (ds_set (i := 2) nd rfl (by first | exact Or.inl rfl | exact Or.inr rfl) (de_lstO (da_nil)))
    (ds_cons (ds_fz (ds_for po rfl (di_range1 (by rfl) (nob "range" (by decide)) (da_cons (de_ix (de_lst (da_cons (de_int) (da_cons (de_int) (da_cons (de_int) (da_cons (de_int) (da_cons (de_int) (da_cons (de_int) (da_nil)))))))) (de_c1 c__law_draw hr (by decide) (by rfl) (fun σ => passAt tk σ) (da_cons (dv 0) (da_cons (de_int) (da_nil)))) (fun _ _ => rfl)) (da_nil))) (dg_nm (i := 3) nd rfl (by first | exact Or.inl rfl | exact Or.inr rfl)) (ds_cons (ds_asg (de_ix (de_lst (da_cons (de_tup (da_cons (de_int) (da_cons (de_int) (da_nil)))) (da_cons (de_tup (da_cons (de_int) (da_cons (de_int) (da_nil)))) (da_cons (de_tup (da_cons (de_int) (da_cons (de_int) (da_nil)))) (da_nil))))) (de_c1 c__law_draw hr (by decide) (by rfl) (fun σ => passAt tk σ) (da_cons (dv 0) (da_cons (de_int) (da_nil)))) (fun _ _ => rfl)) (dg_tp rfl (dgs_cons (i := 4) nd rfl (by first | exact Or.inl rfl | exact Or.inr rfl) (dgs_cons (i := 5) nd rfl (by first | exact Or.inl rfl | exact Or.inr rfl) (dgs_nil)))))
    (ds_one (ds_expr (de_lm PySem.F.slot_list_append PySem.F.type_list_append md_append (dv 2) (da_cons (de_c1 c__law_limit hr (by decide) (by rfl) (fun σ => passAt tk σ) (da_cons (dv 0) (da_cons (dv 4) (da_cons (dv 5) (da_nil))))) (da_nil))))))))
    (ds_cons (ds_while po (DW.t (dw_and (dt_cmp od_gt (de_callB cd_len (by rfl) (nob "len" (by decide)) bt_len (da_cons (dv 2) (da_nil))) (de_int) (nomark _)) (dw_and1 (dt_cmp od_gt (de_callB cd_len (by rfl) (nob "len" (by decide)) bt_len (da_cons (de_c1 c__law_stands hr (by decide) (by rfl) (fun σ => passAt tk σ) (da_cons (dv 2) (da_cons (dv 1) (da_nil)))) (da_nil))) (dv 1) (nomark _))))) (ds_one (ds_set (i := 2) nd rfl (by first | exact Or.inl rfl | exact Or.inr rfl) (de_slice (dv 2) (do_none) (do_some (de_neg (de_int)))))))
    (ds_cons (ds_if (dt_cmp od_gt (de_callB cd_len (by rfl) (nob "len" (by decide)) bt_len (da_cons (de_c1 c__law_stands hr (by decide) (by rfl) (fun σ => passAt tk σ) (da_cons (dv 2) (da_cons (dv 1) (da_nil)))) (da_nil))) (dv 1) (nomark _)) (ds_one (ds_set (i := 2) nd rfl (by first | exact Or.inl rfl | exact Or.inr rfl) (de_lst (da_cons (de_tup (da_cons (de_str [100]) (da_cons (de_op od_fdiv (de_ix (de_ix (dv 2) (de_int) (fun _ _ => rfl)) (de_int) (fun _ _ => rfl)) (de_int)) (da_cons (de_lst (da_cons (de_lst (da_cons (de_int) (da_nil))) (da_nil))) (da_nil))))) (da_nil))))) (ds_nil))
    (ds_one (ds_ret (dv 2))))))

abbrev s_Book_keeps : Stmt := inClass (topS 26) 12
theorem sc_Book_keeps : FnScope N_Book_keeps ["self", "row", "before"] (defScope s_Book_keeps) := ⟨rfl, rfl, rfl, by decide +kernel, rfl, by decide +kernel, by decide +kernel⟩
theorem ok_Book_keeps {P : Program} {w : World} {K : PySem.W.Frag} {mg : Str → Option Value} {base : Heap} (E : LawEnv K mg) {f : Addr} {fd : FuncData} (m_Book_breaches : MetD P w K mg base 5 "Book" "breaches" ["self", "row", "before"] [] sp_Book_breaches) (F : FunD K "keeps" "Book.keeps" (defArgs s_Book_keeps) (defBody s_Book_keeps) (defScope s_Book_keeps) [.str ⟨([] : List Nat).toArray⟩] [] f fd) : FnD P w K mg base 6 f fd ["self", "row", "before"] sp_Book_keeps := by
  have nob := E.nob
  refine fnSd F sc_Book_keeps rl_Book_keeps fun cdv A outer s H Ex hr => ⟨rd_Book_keeps, ?_, rp_Book_keeps⟩
  have nd := sc_Book_keeps.nd
  have po : PassesOwn (model P w) (cxOf (L2.CX P w) P w K mg base N_Book_keeps "Book.keeps" (defScope s_Book_keeps) f cdv A outer s H Ex).A (cxOf (L2.CX P w) P w K mg base N_Book_keeps "Book.keeps" (defScope s_Book_keeps) f cdv A outer s H Ex).env (cxOf (L2.CX P w) P w K mg base N_Book_keeps "Book.keeps" (defScope s_Book_keeps) f cdv A outer s H Ex).xe := passes_of rfl
  have tk : Takes (cxOf (L2.CX P w) P w K mg base N_Book_keeps "Book.keeps" (defScope s_Book_keeps) f cdv A outer s H Ex) (WF Ex) := takes_of rfl rfl rfl rfl
  exact ds_one (ds_ret (de_cmp (odEq hr.units) (de_meth m_Book_breaches hr (by decide) (fun σ => passAt tk σ) (dv 0) (da_cons (dv 1) (da_cons (dv 2) (da_nil)))) (de_lst (da_nil)) (nomark _)))

abbrev s_Book___call__ : Stmt := inClass (topS 26) 5
theorem sc_Book___call__ : FnScope N_Book___call__ ["self", "row"] (defScope s_Book___call__) := ⟨rfl, rfl, rfl, by decide +kernel, rfl, by decide +kernel, by decide +kernel⟩
theorem ok_Book___call__ {P : Program} {w : World} {K : PySem.W.Frag} {mg : Str → Option Value} {base : Heap} (E : LawEnv K mg) {f : Addr} {fd : FuncData} (m_Book_keeps_2 : MetD P w K mg base 6 "Book" "keeps" ["self", "row", "before"] [.str []] sp_Book_keeps) (F : Fun K "__call__" "Book.__call__" s_Book___call__ f fd) : FnD P w K mg base 7 f fd ["self", "row"] sp_Book___call__ := by
  have nob := E.nob
  refine fnS F sc_Book___call__ rl_Book___call__ fun cdv A outer s H Ex hr => ⟨rd_Book___call__, ?_, rp_Book___call__⟩
  have nd := sc_Book___call__.nd
  have po : PassesOwn (model P w) (cxOf (L2.CX P w) P w K mg base N_Book___call__ "Book.__call__" (defScope s_Book___call__) f cdv A outer s H Ex).A (cxOf (L2.CX P w) P w K mg base N_Book___call__ "Book.__call__" (defScope s_Book___call__) f cdv A outer s H Ex).env (cxOf (L2.CX P w) P w K mg base N_Book___call__ "Book.__call__" (defScope s_Book___call__) f cdv A outer s H Ex).xe := passes_of rfl
  have tk : Takes (cxOf (L2.CX P w) P w K mg base N_Book___call__ "Book.__call__" (defScope s_Book___call__) f cdv A outer s H Ex) (WF Ex) := takes_of rfl rfl rfl rfl
  exact ds_one (ds_ret (de_meth m_Book_keeps_2 hr (by decide) (fun σ => passAt tk σ) (dv 0) (da_cons (dv 1) (da_nil))))

abbrev s__law_made : Stmt := topS 43
theorem sc__law_made : FnScope N__law_made ["_law_plain"] (defScope s__law_made) := ⟨rfl, rfl, rfl, by decide +kernel, rfl, by decide +kernel, by decide +kernel⟩
theorem ok__law_made {P : Program} {w : World} {K : PySem.W.Frag} {mg : Str → Option Value} {base : Heap} (E : LawEnv K mg) {f : Addr} {fd : FuncData} (k_Book : MkD P w K mg base 4 "Book" ["self", "limits"] [] sp_Book___init__) (k_Limit : MkD P w K mg base 5 "Limit" ["self", "kinds", "most", "ways"] [] sp_Limit___init__) (F : Fun K "_law_made" "_law_made" s__law_made f fd) : FnD P w K mg base 7 f fd ["_law_plain"] sp__law_made := by
  have nob := E.nob
  refine fnS F sc__law_made rl__law_made fun cdv A outer s H Ex hr => ⟨rd__law_made, ?_, rp__law_made⟩
  have nd := sc__law_made.nd
  have po : PassesOwn (model P w) (cxOf (L2.CX P w) P w K mg base N__law_made "_law_made" (defScope s__law_made) f cdv A outer s H Ex).A (cxOf (L2.CX P w) P w K mg base N__law_made "_law_made" (defScope s__law_made) f cdv A outer s H Ex).env (cxOf (L2.CX P w) P w K mg base N__law_made "_law_made" (defScope s__law_made) f cdv A outer s H Ex).xe := passes_of rfl
  have tk : Takes (cxOf (L2.CX P w) P w K mg base N__law_made "_law_made" (defScope s__law_made) f cdv A outer s H Ex) (WF Ex) := takes_of rfl rfl rfl rfl
  exact ds_one (ds_ret (de_frzI (de_make k_Book hr (by decide) (by rfl) (fun σ => passAt tk σ) (da_cons (de_lc rfl nd (di_any (dv 0)) (blkOk_by (own := [("_law_kinds_here", 1), ("_law_most", 2), ("_law_ways", 3)]) (N := N__law_made) (sc := defScope s__law_made) (by decide +kernel)) rfl rfl (fun _ _ _ _ _ => dg_tp rfl (dgs_cons (i := 1) nd rfl (by first | exact Or.inl rfl | exact Or.inr rfl) (dgs_cons (i := 2) nd rfl (by first | exact Or.inl rfl | exact Or.inr rfl) (dgs_cons (i := 3) nd rfl (by first | exact Or.inl rfl | exact Or.inr rfl) (dgs_nil))))) (fun _ _ _ _ _ => dts_nil) (fun _ _ _ _ _ => de_frzI (de_make k_Limit hr (by decide) (by rfl) pas0 (da_cons (dv 1) (da_cons (dv 2) (da_cons (de_lc rfl nd (di_any (dv 3)) (blkOk_by (own := [("_law_way", 4)]) (by kernel_rfl)) rfl rfl (fun _ _ _ _ _ => dg_nm (i := 4) nd rfl (by first | exact Or.inl rfl | exact Or.inr rfl)) (fun _ _ _ _ _ => dts_nil) (fun _ _ _ _ _ => de_callTy (cd_listA rfl) (by rfl) (nob "list" (by decide)) bt_list (da_cons (dv 4) (da_nil)))) (da_nil))))))) (da_nil)))))

abbrev s__law_row_right : Stmt := topS 45
theorem sc__law_row_right : FnScope N__law_row_right ["_law_bag_here", "_law_book_here", "_law_plain", "_law_row_here", "_law_before"] (defScope s__law_row_right) := ⟨rfl, rfl, rfl, by decide +kernel, rfl, by decide +kernel, by decide +kernel⟩
theorem ok__law_row_right {P : Program} {w : World} {K : PySem.W.Frag} {mg : Str → Option Value} {base : Heap} (E : LawEnv K mg) {f : Addr} {fd : FuncData} (c__law_breaches : CalD P w K mg base 4 "_law_breaches" ["_law_plain", "_law_before", "_law_row_here"] sp__law_breaches) (c__law_mixed : CalD P w K mg base 2 "_law_mixed" ["_law_bag_here", "_law_items"] sp__law_mixed) (c__law_stand : CalD P w K mg base 3 "_law_stand" ["_law_plain", "_law_row_here"] sp__law_stand) (m_Book_breaches : MetD P w K mg base 5 "Book" "breaches" ["self", "row", "before"] [] sp_Book_breaches) (m_Book_breaches_2 : MetD P w K mg base 5 "Book" "breaches" ["self", "row", "before"] [.str []] sp_Book_breaches) (m_Book_keeps : MetD P w K mg base 6 "Book" "keeps" ["self", "row", "before"] [] sp_Book_keeps) (m_Book_keeps_2 : MetD P w K mg base 6 "Book" "keeps" ["self", "row", "before"] [.str []] sp_Book_keeps) (m_Book_counts : MetD P w K mg base 5 "Book" "counts" ["self", "row"] [] sp_Book_counts) (o_Book : ObjC P w K mg base 7 "Book" ["self", "row"] sp_Book___call__) (F : Fun K "_law_row_right" "_law_row_right" s__law_row_right f fd) : FnD P w K mg base 8 f fd ["_law_bag_here", "_law_book_here", "_law_plain", "_law_row_here", "_law_before"] sp__law_row_right := by
  have nob := E.nob
  refine fnS F sc__law_row_right rl__law_row_right fun cdv A outer s H Ex hr => ⟨rd__law_row_right, ?_, rp__law_row_right⟩
  have nd := sc__law_row_right.nd
  have po : PassesOwn (model P w) (cxOf (L2.CX P w) P w K mg base N__law_row_right "_law_row_right" (defScope s__law_row_right) f cdv A outer s H Ex).A (cxOf (L2.CX P w) P w K mg base N__law_row_right "_law_row_right" (defScope s__law_row_right) f cdv A outer s H Ex).env (cxOf (L2.CX P w) P w K mg base N__law_row_right "_law_row_right" (defScope s__law_row_right) f cdv A outer s H Ex).xe := passes_of rfl
  have tk : Takes (cxOf (L2.CX P w) P w K mg base N__law_row_right "_law_row_right" (defScope s__law_row_right) f cdv A outer s H Ex) (WF Ex) := takes_of rfl rfl rfl rfl
  exact ds_cons (ds_set (i := 5) nd rfl (by first | exact Or.inl rfl | exact Or.inr rfl) (de_c1 c__law_breaches hr (by decide) (by rfl) (fun σ => passAt tk σ) (da_cons (dv 2) (da_cons (dv 4) (da_cons (dv 3) (da_nil))))))
    (ds_cons (ds_set (i := 6) nd rfl (by first | exact Or.inl rfl | exact Or.inr rfl) (de_c1 c__law_breaches hr (by decide) (by rfl) (fun σ => passAt tk σ) (da_cons (dv 2) (da_cons (de_str []) (da_cons (dv 3) (da_nil))))))
    (ds_cons (ds_for po rfl (di_any (de_c1 c__law_mixed hr (by decide) (by rfl) (fun σ => passAt tk σ) (da_cons (dv 0) (da_cons (de_lst (da_cons (de_int) (da_cons (de_int) (da_cons (de_int) (da_cons (de_int) (da_cons (de_int) (da_cons (de_int) (da_nil)))))))) (da_nil))))) (dg_nm (i := 7) nd rfl (by first | exact Or.inl rfl | exact Or.inr rfl)) (ds_cons (ds_if (dt_cmp (odEq hr.units) (dv 7) (de_int) (nomark _)) (ds_cons (ds_set (i := 8) nd rfl (by first | exact Or.inl rfl | exact Or.inr rfl) (de_meth m_Book_breaches hr (by decide) (fun σ => passAt tk σ) (dv 1) (da_cons (dv 3) (da_cons (dv 4) (da_nil)))))
    (ds_cons (ds_if (dt_cmp (odNe hr.units) (dv 8) (dv 5) (nomark _)) (ds_one (ds_ret (de_bl))) (ds_nil))
    (ds_one (ds_expr (de_lm PySem.F.slot_list_append PySem.F.type_list_append md_append (dv 8) (da_cons (de_tup (da_cons (de_int) (da_cons (de_int) (da_nil)))) (da_nil))))))) (ds_nil))
    (ds_cons (ds_if (DW.t (dw_and (dt_cmp (odEq hr.units) (dv 7) (de_int) (nomark _)) (dw_and1 (dt_cmp (odNe hr.units) (de_meth m_Book_breaches_2 hr (by decide) (fun σ => passAt tk σ) (dv 1) (da_cons (dv 3) (da_nil))) (dv 6) (nomark _))))) (ds_one (ds_ret (de_bl))) (ds_nil))
    (ds_cons (ds_if (DW.t (dw_and (dt_cmp (odEq hr.units) (dv 7) (de_int) (nomark _)) (dw_and1 (dt_cmp (odNe hr.units) (de_meth m_Book_keeps hr (by decide) (fun σ => passAt tk σ) (dv 1) (da_cons (dv 3) (da_cons (dv 4) (da_nil)))) (de_cmp (odEq hr.units) (dv 5) (de_lst (da_nil)) (nomark _)) (nomark _))))) (ds_one (ds_ret (de_bl))) (ds_nil))
    (ds_cons (ds_if (dt_cmp (odEq hr.units) (dv 7) (de_int) (nomark _)) (ds_cons (ds_set (i := 9) nd rfl (by first | exact Or.inl rfl | exact Or.inr rfl) (de_cmp (odEq hr.units) (dv 6) (de_lst (da_nil)) (nomark _)))
    (ds_one (ds_if (DW.t (dw_or (dt_cmp (odNe hr.units) (de_meth m_Book_keeps_2 hr (by decide) (fun σ => passAt tk σ) (dv 1) (da_cons (dv 3) (da_nil))) (dv 9) (nomark _)) (dw_or1 (dt_cmp (odNe hr.units) (de_callO o_Book hr (by decide) (fun σ => passAt tk σ) (dv 1) (da_cons (dv 3) (da_nil))) (dv 9) (nomark _))))) (ds_one (ds_ret (de_bl))) (ds_nil)))) (ds_nil))
    (ds_one (ds_if (DW.t (dw_and (dt_cmp (odEq hr.units) (dv 7) (de_int) (nomark _)) (dw_and1 (dt_cmp (odNe hr.units) (de_meth m_Book_counts hr (by decide) (fun σ => passAt tk σ) (dv 1) (da_cons (dv 3) (da_nil))) (de_ix (de_c1 c__law_stand hr (by decide) (by rfl) (fun σ => passAt tk σ) (da_cons (dv 2) (da_cons (dv 3) (da_nil)))) (de_int) (fun _ _ => rfl)) (nomark _))))) (ds_one (ds_ret (de_bl))) (ds_nil))))))))
    (ds_one (ds_ret (de_bl)))))

abbrev s_law : Stmt := topS 46
theorem sc_law : FnScope N_law ["_law_script"] (defScope s_law) := ⟨rfl, rfl, rfl, by decide +kernel, rfl, by decide +kernel, by decide +kernel⟩
theorem ok_law {P : Program} {w : World} {K : PySem.W.Frag} {mg : Str → Option Value} {base : Heap} (E : LawEnv K mg) {f : Addr} {fd : FuncData} (c__law_bag : CalD P w K mg base 1 "_law_bag" ["_law_script"] sp__law_bag) (c__law_book : CalD P w K mg base 5 "_law_book" ["_law_bag_here", "_law_most_stands"] sp__law_book) (c__law_made : CalD P w K mg base 7 "_law_made" ["_law_plain"] sp__law_made) (c__law_row : CalD P w K mg base 2 "_law_row" ["_law_bag_here", "_law_most"] sp__law_row) (c__law_draw : CalD P w K mg base 1 "_law_draw" ["_law_bag_here", "_law_size"] sp__law_draw) (c__law_pick : CalD P w K mg base 2 "_law_pick" ["_law_bag_here", "_law_items"] sp__law_pick) (c__law_row_right : CalD P w K mg base 8 "_law_row_right" ["_law_bag_here", "_law_book_here", "_law_plain", "_law_row_here", "_law_before"] sp__law_row_right) (l_Book : LenO P w K mg base 1 "Book" sp_Book___len__) (F : Fun K "law" "law" s_law f fd) : FnD P w K mg base 9 f fd ["_law_script"] sp_law := by
  have nob := E.nob
  refine fnS F sc_law rl_law fun cdv A outer s H Ex hr => ⟨rd_law, ?_, rp_law⟩
  have nd := sc_law.nd
  have po : PassesOwn (model P w) (cxOf (L2.CX P w) P w K mg base N_law "law" (defScope s_law) f cdv A outer s H Ex).A (cxOf (L2.CX P w) P w K mg base N_law "law" (defScope s_law) f cdv A outer s H Ex).env (cxOf (L2.CX P w) P w K mg base N_law "law" (defScope s_law) f cdv A outer s H Ex).xe := passes_of rfl
  have tk : Takes (cxOf (L2.CX P w) P w K mg base N_law "law" (defScope s_law) f cdv A outer s H Ex) (WF Ex) := takes_of rfl rfl rfl rfl
  exact ds_cons (ds_set (i := 1) nd rfl (by first | exact Or.inl rfl | exact Or.inr rfl) (de_c1 c__law_bag hr (by decide) (by rfl) (fun σ => passAt tk σ) (da_cons (dv 0) (da_nil))))
    (ds_cons (ds_set (i := 2) nd rfl (by first | exact Or.inl rfl | exact Or.inr rfl) (de_lst (da_cons (de_c1 c__law_book hr (by decide) (by rfl) (fun σ => passAt tk σ) (da_cons (dv 1) (da_cons (de_int) (da_nil)))) (da_cons (de_c1 c__law_book hr (by decide) (by rfl) (fun σ => passAt tk σ) (da_cons (dv 1) (da_cons (de_int) (da_nil)))) (da_nil)))))
    (ds_cons (ds_setLc (i := 3) rfl nd rfl rfl (sw_true rfl rfl rfl (by decide +kernel)) (di_any (dv 2)) (blkOk_by (own := [("_law_plain", 4)]) (N := N_law) (sc := defScope s_law) (by decide +kernel)) rfl rfl (fun _ _ _ _ _ => dg_nm (i := 4) nd rfl (by first | exact Or.inl rfl | exact Or.inr rfl)) (fun _ _ _ _ _ => dts_nil) (fun _ _ _ _ _ => de_c1 c__law_made hr (by decide) (by rfl) pas0 (da_cons (dv 4) (da_nil))))
    (ds_cons (ds_set (i := 5) nd rfl (by first | exact Or.inl rfl | exact Or.inr rfl) (de_lstO (da_cons (de_c1 c__law_row hr (by decide) (by rfl) (fun σ => passAt tk σ) (da_cons (dv 1) (da_cons (de_int) (da_nil)))) (da_cons (de_c1 c__law_row hr (by decide) (by rfl) (fun σ => passAt tk σ) (da_cons (dv 1) (da_cons (de_int) (da_nil)))) (da_cons (de_c1 c__law_row hr (by decide) (by rfl) (fun σ => passAt tk σ) (da_cons (dv 1) (da_cons (de_int) (da_nil)))) (da_cons (de_str []) (da_nil)))))))
    (ds_cons (ds_fz (ds_if (dt_cmp (odEq hr.units) (de_c1 c__law_draw hr (by decide) (by rfl) (fun σ => passAt tk σ) (da_cons (dv 1) (da_cons (de_int) (da_nil)))) (de_int) (nomark _)) (ds_one (ds_setIx (dv 5) (de_int) (de_op od_mul (de_op od_add (de_c1 c__law_row hr (by decide) (by rfl) (fun σ => passAt tk σ) (da_cons (dv 1) (da_cons (de_int) (da_nil)))) (de_str [100, 119, 114])) (de_int)))) (ds_nil)))
    (ds_cons (ds_for po rfl (di_any (de_lst (da_cons (de_int) (da_cons (de_int) (da_cons (de_int) (da_nil)))))) (dg_nm (i := 6) nd rfl (by first | exact Or.inl rfl | exact Or.inr rfl)) (ds_cons (ds_if (dt_cmp (odNe hr.units) (de_callB (cd_lenO l_Book hr (by decide)) (by rfl) (nob "len" (by decide)) bt_len (da_cons (de_ix (dv 3) (dv 6) (fun _ _ => rfl)) (da_nil))) (de_callB cd_len (by rfl) (nob "len" (by decide)) bt_len (da_cons (de_ix (dv 2) (dv 6) (fun _ _ => rfl)) (da_nil))) (nomark _)) (ds_one (ds_ret (de_bl))) (ds_nil))
    (ds_one (ds_for po rfl (di_any (dv 5)) (dg_nm (i := 7) nd rfl (by first | exact Or.inl rfl | exact Or.inr rfl)) (ds_one (ds_if (dt_not (dt_val (de_c1 c__law_row_right hr (by decide) (by rfl) (fun σ => passAt tk σ) (da_cons (dv 1) (da_cons (de_ix (dv 3) (dv 6) (fun _ _ => rfl)) (da_cons (de_ix (dv 2) (dv 6) (fun _ _ => rfl)) (da_cons (dv 7) (da_cons (de_c1 c__law_pick hr (by decide) (by rfl) (fun σ => passAt tk σ) (da_cons (dv 1) (da_cons (dv 5) (da_nil)))) (da_nil))))))))) (ds_one (ds_ret (de_bl))) (ds_nil)))))))
    (ds_one (ds_ret (de_bl))))))))

/-! ### what the top has written -/
theorem all_mk {l : PySem.W.OpenLaw} {w : World} {K : PySem.W.Frag} {h : Heap} {mg : Str → Option Value} {fa : Addr} (X : K.In h) (G : h.Ns mainGlobals mg) (hfa : mg "law" = some (.ref fa))
    {K_Limit : Addr} (cn_Limit : PySem.W.nsIn K mainGlobals "Limit" = some (some (.ref K_Limit)))
    (cp_Limit : PySem.W.plainGet K K_Limit Str.empty = true) (ch_Limit : PySem.W.hasDictIn K K_Limit = true) (co_Limit : PySem.W.plainOver K K_Limit = true) (cs_Limit : PySem.W.findIn K (.ref K_Limit) "__setattr__" = some (some (.builtin "object.__setattr__")))
    (cm_Limit : PySem.W.makesIn K K_Limit = true) (ck_Limit : PySem.W.keepIn K (.ref K_Limit) = true)
    (ca_Limit : PySem.W.findIn K (.ref K_Limit) "__class__" = some (some (.builtin "object.__class__"))) (cr_Limit : PySem.W.mroIn K K_Limit (.type "object") = some true) (ct_Limit : PySem.W.typeIn K (.ref K_Limit) = some (.type "type")) (ci_Limit : PySem.W.isClsIn K K_Limit = true)
    {K_Book : Addr} (cn_Book : PySem.W.nsIn K mainGlobals "Book" = some (some (.ref K_Book)))
    (cp_Book : PySem.W.plainGet K K_Book Str.empty = true) (ch_Book : PySem.W.hasDictIn K K_Book = true) (co_Book : PySem.W.plainOver K K_Book = true) (cs_Book : PySem.W.findIn K (.ref K_Book) "__setattr__" = some (some (.builtin "object.__setattr__")))
    (cm_Book : PySem.W.makesIn K K_Book = true) (ck_Book : PySem.W.keepIn K (.ref K_Book) = true)
    (na_Limit_ends : PySem.W.findIn K (.ref K_Limit) "ends" = some none)
    (na_Book_rules : PySem.W.findIn K (.ref K_Book) "rules" = some none)
    (na_Limit_bound : PySem.W.findIn K (.ref K_Limit) "bound" = some none)
    (na_Limit_letters : PySem.W.findIn K (.ref K_Limit) "letters" = some none)
    (na_Book_cap : PySem.W.findIn K (.ref K_Book) "cap" = some none)
    (na_Book_first : PySem.W.findIn K (.ref K_Book) "first" = some none)
    (na_Book_steps : PySem.W.findIn K (.ref K_Book) "steps" = some none)
    {f0 : Addr} {od0 an0 : Option Addr} {sl0 : Array (Option Value)} {oc0 kV0 dc0 pm0 cd0 ct0 : Value}
    (a0 : PySem.W.findIn K (.ref K_Limit) "marks_behind" = some (some (.ref f0))) (b0 : PySem.W.isFn K (.ref f0) = true)
    (l0 : K.lookup f0 = some ⟨oc0, od0, .func (PySem.W.fnOf "marks_behind" "Limit.marks_behind" (defArgs s_Limit_marks_behind) (defBody s_Limit_marks_behind) (defScope s_Limit_marks_behind) .none kV0 dc0 pm0 an0 cd0 ct0), sl0⟩) (c0 : PySem.W.codeIn K cd0 "Limit.marks_behind" = true) (k0 : PySem.W.keepIn K (.ref f0) = true)
    {f1 : Addr} {od1 an1 : Option Addr} {sl1 : Array (Option Value)} {oc1 kV1 dc1 pm1 cd1 ct1 : Value}
    (a1 : PySem.W.findIn K (.ref K_Limit) "is_full" = some (some (.ref f1))) (b1 : PySem.W.isFn K (.ref f1) = true)
    (l1 : K.lookup f1 = some ⟨oc1, od1, .func (PySem.W.fnOf "is_full" "Limit.is_full" (defArgs s_Limit_is_full) (defBody s_Limit_is_full) (defScope s_Limit_is_full) .none kV1 dc1 pm1 an1 cd1 ct1), sl1⟩) (c1 : PySem.W.codeIn K cd1 "Limit.is_full" = true) (k1 : PySem.W.keepIn K (.ref f1) = true)
    {f2 : Addr} {od2 an2 : Option Addr} {sl2 : Array (Option Value)} {oc2 kV2 dc2 pm2 cd2 ct2 : Value}
    (a2 : PySem.W.findIn K (.ref K_Book) "__len__" = some (some (.ref f2))) (b2 : PySem.W.isFn K (.ref f2) = true)
    (l2 : K.lookup f2 = some ⟨oc2, od2, .func (PySem.W.fnOf "__len__" "Book.__len__" (defArgs s_Book___len__) (defBody s_Book___len__) (defScope s_Book___len__) .none kV2 dc2 pm2 an2 cd2 ct2), sl2⟩) (c2 : PySem.W.codeIn K cd2 "Book.__len__" = true) (k2 : PySem.W.keepIn K (.ref f2) = true)
    {f3 : Addr} {od3 an3 : Option Addr} {sl3 : Array (Option Value)} {oc3 kV3 dc3 pm3 cd3 ct3 : Value}
    (a3 : PySem.W.nsIn K mainGlobals "is_whole" = some (some (.ref f3)))
    (l3 : K.lookup f3 = some ⟨oc3, od3, .func (PySem.W.fnOf "is_whole" "is_whole" (defArgs s_is_whole) (defBody s_is_whole) (defScope s_is_whole) .none kV3 dc3 pm3 an3 cd3 ct3), sl3⟩) (c3 : PySem.W.codeIn K cd3 "is_whole" = true) (k3 : PySem.W.keepIn K (.ref f3) = true)
    {f4 : Addr} {od4 an4 : Option Addr} {sl4 : Array (Option Value)} {oc4 kV4 dc4 pm4 cd4 ct4 : Value}
    (a4 : PySem.W.nsIn K mainGlobals "is_row" = some (some (.ref f4)))
    (l4 : K.lookup f4 = some ⟨oc4, od4, .func (PySem.W.fnOf "is_row" "is_row" (defArgs s_is_row) (defBody s_is_row) (defScope s_is_row) .none kV4 dc4 pm4 an4 cd4 ct4), sl4⟩) (c4 : PySem.W.codeIn K cd4 "is_row" = true) (k4 : PySem.W.keepIn K (.ref f4) = true)
    {f5 : Addr} {od5 an5 : Option Addr} {sl5 : Array (Option Value)} {oc5 kV5 dc5 pm5 cd5 ct5 : Value}
    (a5 : PySem.W.nsIn K mainGlobals "_law_bag" = some (some (.ref f5)))
    (l5 : K.lookup f5 = some ⟨oc5, od5, .func (PySem.W.fnOf "_law_bag" "_law_bag" (defArgs s__law_bag) (defBody s__law_bag) (defScope s__law_bag) .none kV5 dc5 pm5 an5 cd5 ct5), sl5⟩) (c5 : PySem.W.codeIn K cd5 "_law_bag" = true) (k5 : PySem.W.keepIn K (.ref f5) = true)
    {f6 : Addr} {od6 an6 : Option Addr} {sl6 : Array (Option Value)} {oc6 kV6 dc6 pm6 cd6 ct6 : Value}
    (a6 : PySem.W.nsIn K mainGlobals "_law_draw" = some (some (.ref f6)))
    (l6 : K.lookup f6 = some ⟨oc6, od6, .func (PySem.W.fnOf "_law_draw" "_law_draw" (defArgs s__law_draw) (defBody s__law_draw) (defScope s__law_draw) .none kV6 dc6 pm6 an6 cd6 ct6), sl6⟩) (c6 : PySem.W.codeIn K cd6 "_law_draw" = true) (k6 : PySem.W.keepIn K (.ref f6) = true)
    {f7 : Addr} {od7 an7 : Option Addr} {sl7 : Array (Option Value)} {oc7 kV7 dc7 pm7 cd7 ct7 : Value}
    (a7 : PySem.W.nsIn K mainGlobals "_law_top" = some (some (.ref f7)))
    (l7 : K.lookup f7 = some ⟨oc7, od7, .func (PySem.W.fnOf "_law_top" "_law_top" (defArgs s__law_top) (defBody s__law_top) (defScope s__law_top) .none kV7 dc7 pm7 an7 cd7 ct7), sl7⟩) (c7 : PySem.W.codeIn K cd7 "_law_top" = true) (k7 : PySem.W.keepIn K (.ref f7) = true)
    {f8 : Addr} {od8 an8 : Option Addr} {sl8 : Array (Option Value)} {oc8 kV8 dc8 pm8 cd8 ct8 : Value}
    (a8 : PySem.W.nsIn K mainGlobals "_law_fresh" = some (some (.ref f8)))
    (l8 : K.lookup f8 = some ⟨oc8, od8, .func (PySem.W.fnOf "_law_fresh" "_law_fresh" (defArgs s__law_fresh) (defBody s__law_fresh) (defScope s__law_fresh) .none kV8 dc8 pm8 an8 cd8 ct8), sl8⟩) (c8 : PySem.W.codeIn K cd8 "_law_fresh" = true) (k8 : PySem.W.keepIn K (.ref f8) = true)
    {f9 : Addr} {od9 an9 : Option Addr} {sl9 : Array (Option Value)} {oc9 kV9 dc9 pm9 cd9 ct9 : Value}
    (a9 : PySem.W.nsIn K mainGlobals "_law_mark" = some (some (.ref f9)))
    (l9 : K.lookup f9 = some ⟨oc9, od9, .func (PySem.W.fnOf "_law_mark" "_law_mark" (defArgs s__law_mark) (defBody s__law_mark) (defScope s__law_mark) .none kV9 dc9 pm9 an9 cd9 ct9), sl9⟩) (c9 : PySem.W.codeIn K cd9 "_law_mark" = true) (k9 : PySem.W.keepIn K (.ref f9) = true)
    {f10 : Addr} {od10 an10 : Option Addr} {sl10 : Array (Option Value)} {oc10 kV10 dc10 pm10 cd10 ct10 : Value}
    (a10 : PySem.W.nsIn K mainGlobals "_law_is_full" = some (some (.ref f10)))
    (l10 : K.lookup f10 = some ⟨oc10, od10, .func (PySem.W.fnOf "_law_is_full" "_law_is_full" (defArgs s__law_is_full) (defBody s__law_is_full) (defScope s__law_is_full) .none kV10 dc10 pm10 an10 cd10 ct10), sl10⟩) (c10 : PySem.W.codeIn K cd10 "_law_is_full" = true) (k10 : PySem.W.keepIn K (.ref f10) = true)
    {f11 : Addr} {od11 an11 : Option Addr} {sl11 : Array (Option Value)} {oc11 kV11 dc11 pm11 cd11 ct11 : Value}
    (a11 : PySem.W.findIn K (.ref K_Limit) "counted" = some (some (.ref f11))) (b11 : PySem.W.isFn K (.ref f11) = true)
    (l11 : K.lookup f11 = some ⟨oc11, od11, .func (PySem.W.fnOf "counted" "Limit.counted" (defArgs s_Limit_counted) (defBody s_Limit_counted) (defScope s_Limit_counted) .none kV11 dc11 pm11 an11 cd11 ct11), sl11⟩) (c11 : PySem.W.codeIn K cd11 "Limit.counted" = true) (k11 : PySem.W.keepIn K (.ref f11) = true)
    {f12 : Addr} {od12 an12 : Option Addr} {sl12 : Array (Option Value)} {oc12 kV12 dc12 pm12 cd12 ct12 : Value}
    (a12 : PySem.W.nsIn K mainGlobals "is_integer" = some (some (.ref f12)))
    (l12 : K.lookup f12 = some ⟨oc12, od12, .func (PySem.W.fnOf "is_integer" "is_integer" (defArgs s_is_integer) (defBody s_is_integer) (defScope s_is_integer) .none kV12 dc12 pm12 an12 cd12 ct12), sl12⟩) (c12 : PySem.W.codeIn K cd12 "is_integer" = true) (k12 : PySem.W.keepIn K (.ref f12) = true)
    {f13 : Addr} {od13 an13 : Option Addr} {sl13 : Array (Option Value)} {oc13 kV13 dc13 pm13 cd13 ct13 : Value}
    (a13 : PySem.W.nsIn K mainGlobals "is_kinds" = some (some (.ref f13)))
    (l13 : K.lookup f13 = some ⟨oc13, od13, .func (PySem.W.fnOf "is_kinds" "is_kinds" (defArgs s_is_kinds) (defBody s_is_kinds) (defScope s_is_kinds) .none kV13 dc13 pm13 an13 cd13 ct13), sl13⟩) (c13 : PySem.W.codeIn K cd13 "is_kinds" = true) (k13 : PySem.W.keepIn K (.ref f13) = true)
    {f14 : Addr} {od14 an14 : Option Addr} {sl14 : Array (Option Value)} {oc14 kV14 dc14 pm14 cd14 ct14 : Value}
    (a14 : PySem.W.nsIn K mainGlobals "_law_pick" = some (some (.ref f14)))
    (l14 : K.lookup f14 = some ⟨oc14, od14, .func (PySem.W.fnOf "_law_pick" "_law_pick" (defArgs s__law_pick) (defBody s__law_pick) (defScope s__law_pick) .none kV14 dc14 pm14 an14 cd14 ct14), sl14⟩) (c14 : PySem.W.codeIn K cd14 "_law_pick" = true) (k14 : PySem.W.keepIn K (.ref f14) = true)
    {f15 : Addr} {od15 an15 : Option Addr} {sl15 : Array (Option Value)} {oc15 kV15 dc15 pm15 cd15 ct15 : Value}
    (a15 : PySem.W.nsIn K mainGlobals "_law_mixed" = some (some (.ref f15)))
    (l15 : K.lookup f15 = some ⟨oc15, od15, .func (PySem.W.fnOf "_law_mixed" "_law_mixed" (defArgs s__law_mixed) (defBody s__law_mixed) (defScope s__law_mixed) .none kV15 dc15 pm15 an15 cd15 ct15), sl15⟩) (c15 : PySem.W.codeIn K cd15 "_law_mixed" = true) (k15 : PySem.W.keepIn K (.ref f15) = true)
    {f16 : Addr} {od16 an16 : Option Addr} {sl16 : Array (Option Value)} {oc16 kV16 dc16 pm16 cd16 ct16 : Value}
    (a16 : PySem.W.nsIn K mainGlobals "_law_step" = some (some (.ref f16)))
    (l16 : K.lookup f16 = some ⟨oc16, od16, .func (PySem.W.fnOf "_law_step" "_law_step" (defArgs s__law_step) (defBody s__law_step) (defScope s__law_step) .none kV16 dc16 pm16 an16 cd16 ct16), sl16⟩) (c16 : PySem.W.codeIn K cd16 "_law_step" = true) (k16 : PySem.W.keepIn K (.ref f16) = true)
    {f17 : Addr} {od17 an17 : Option Addr} {sl17 : Array (Option Value)} {oc17 kV17 dc17 pm17 cd17 ct17 : Value}
    (a17 : PySem.W.nsIn K mainGlobals "_law_row" = some (some (.ref f17)))
    (l17 : K.lookup f17 = some ⟨oc17, od17, .func (PySem.W.fnOf "_law_row" "_law_row" (defArgs s__law_row) (defBody s__law_row) (defScope s__law_row) .none kV17 dc17 pm17 an17 cd17 ct17), sl17⟩) (c17 : PySem.W.codeIn K cd17 "_law_row" = true) (k17 : PySem.W.keepIn K (.ref f17) = true)
    {f18 : Addr} {od18 an18 : Option Addr} {sl18 : Array (Option Value)} {oc18 kV18 dc18 pm18 cd18 ct18 : Value}
    (a18 : PySem.W.findIn K (.ref K_Book) "step" = some (some (.ref f18))) (b18 : PySem.W.isFn K (.ref f18) = true)
    (l18 : K.lookup f18 = some ⟨oc18, od18, .func (PySem.W.fnOf "step" "Book.step" (defArgs s_Book_step) (defBody s_Book_step) (defScope s_Book_step) .none kV18 dc18 pm18 an18 cd18 ct18), sl18⟩) (c18 : PySem.W.codeIn K cd18 "Book.step" = true) (k18 : PySem.W.keepIn K (.ref f18) = true)
    {f19 : Addr} {od19 an19 : Option Addr} {sl19 : Array (Option Value)} {oc19 kV19 dc19 pm19 cd19 ct19 : Value}
    (a19 : PySem.W.nsIn K mainGlobals "check_row" = some (some (.ref f19)))
    (l19 : K.lookup f19 = some ⟨oc19, od19, .func (PySem.W.fnOf "check_row" "check_row" (defArgs s_check_row) (defBody s_check_row) (defScope s_check_row) .none kV19 dc19 pm19 an19 cd19 ct19), sl19⟩) (c19 : PySem.W.codeIn K cd19 "check_row" = true) (k19 : PySem.W.keepIn K (.ref f19) = true)
    {f20 : Addr} {od20 an20 : Option Addr} {sl20 : Array (Option Value)} {oc20 kV20 dc20 pm20 cd20 ct20 : Value}
    (a20 : PySem.W.nsIn K mainGlobals "check_kinds" = some (some (.ref f20)))
    (l20 : K.lookup f20 = some ⟨oc20, od20, .func (PySem.W.fnOf "check_kinds" "check_kinds" (defArgs s_check_kinds) (defBody s_check_kinds) (defScope s_check_kinds) .none kV20 dc20 pm20 an20 cd20 ct20), sl20⟩) (c20 : PySem.W.codeIn K cd20 "check_kinds" = true) (k20 : PySem.W.keepIn K (.ref f20) = true)
    {f21 : Addr} {od21 an21 : Option Addr} {sl21 : Array (Option Value)} {oc21 kV21 dc21 pm21 cd21 ct21 : Value}
    (a21 : PySem.W.nsIn K mainGlobals "is_between" = some (some (.ref f21)))
    (l21 : K.lookup f21 = some ⟨oc21, od21, .func (PySem.W.fnOf "is_between" "is_between" (defArgs s_is_between) (defBody s_is_between) (defScope s_is_between) .none kV21 dc21 pm21 an21 cd21 ct21), sl21⟩) (c21 : PySem.W.codeIn K cd21 "is_between" = true) (k21 : PySem.W.keepIn K (.ref f21) = true)
    {f22 : Addr} {od22 an22 : Option Addr} {sl22 : Array (Option Value)} {oc22 kV22 dc22 pm22 cd22 ct22 : Value}
    (a22 : PySem.W.nsIn K mainGlobals "_law_stand" = some (some (.ref f22)))
    (l22 : K.lookup f22 = some ⟨oc22, od22, .func (PySem.W.fnOf "_law_stand" "_law_stand" (defArgs s__law_stand) (defBody s__law_stand) (defScope s__law_stand) .none kV22 dc22 pm22 an22 cd22 ct22), sl22⟩) (c22 : PySem.W.codeIn K cd22 "_law_stand" = true) (k22 : PySem.W.keepIn K (.ref f22) = true)
    {f23 : Addr} {od23 an23 : Option Addr} {sl23 : Array (Option Value)} {oc23 kV23 dc23 pm23 cd23 ct23 : Value}
    (a23 : PySem.W.nsIn K mainGlobals "_law_stands" = some (some (.ref f23)))
    (l23 : K.lookup f23 = some ⟨oc23, od23, .func (PySem.W.fnOf "_law_stands" "_law_stands" (defArgs s__law_stands) (defBody s__law_stands) (defScope s__law_stands) .none kV23 dc23 pm23 an23 cd23 ct23), sl23⟩) (c23 : PySem.W.codeIn K cd23 "_law_stands" = true) (k23 : PySem.W.keepIn K (.ref f23) = true)
    {f24 : Addr} {od24 an24 : Option Addr} {sl24 : Array (Option Value)} {oc24 kV24 dc24 pm24 cd24 ct24 : Value}
    (a24 : PySem.W.nsIn K mainGlobals "_law_kinds" = some (some (.ref f24)))
    (l24 : K.lookup f24 = some ⟨oc24, od24, .func (PySem.W.fnOf "_law_kinds" "_law_kinds" (defArgs s__law_kinds) (defBody s__law_kinds) (defScope s__law_kinds) .none kV24 dc24 pm24 an24 cd24 ct24), sl24⟩) (c24 : PySem.W.codeIn K cd24 "_law_kinds" = true) (k24 : PySem.W.keepIn K (.ref f24) = true)
    {f25 : Addr} {od25 an25 : Option Addr} {sl25 : Array (Option Value)} {oc25 kV25 dc25 pm25 cd25 ct25 : Value}
    (a25 : PySem.W.findIn K (.ref K_Book) "__init__" = some (some (.ref f25))) (b25 : PySem.W.isFn K (.ref f25) = true)
    (l25 : K.lookup f25 = some ⟨oc25, od25, .func (PySem.W.fnOf "__init__" "Book.__init__" (defArgs s_Book___init__) (defBody s_Book___init__) (defScope s_Book___init__) .none kV25 dc25 pm25 an25 cd25 ct25), sl25⟩) (c25 : PySem.W.codeIn K cd25 "Book.__init__" = true) (k25 : PySem.W.keepIn K (.ref f25) = true)
    {f26 : Addr} {od26 an26 : Option Addr} {sl26 : Array (Option Value)} {oc26 kV26 dc26 pm26 cd26 ct26 : Value}
    (a26 : PySem.W.findIn K (.ref K_Book) "stand" = some (some (.ref f26))) (b26 : PySem.W.isFn K (.ref f26) = true)
    (l26 : K.lookup f26 = some ⟨oc26, od26, .func (PySem.W.fnOf "stand" "Book.stand" (defArgs s_Book_stand) (defBody s_Book_stand) (defScope s_Book_stand) .none kV26 dc26 pm26 an26 cd26 ct26), sl26⟩) (c26 : PySem.W.codeIn K cd26 "Book.stand" = true) (k26 : PySem.W.keepIn K (.ref f26) = true)
    {f27 : Addr} {od27 an27 : Option Addr} {sl27 : Array (Option Value)} {oc27 kV27 dc27 pm27 cd27 ct27 : Value}
    (a27 : PySem.W.nsIn K mainGlobals "is_way" = some (some (.ref f27)))
    (l27 : K.lookup f27 = some ⟨oc27, od27, .func (PySem.W.fnOf "is_way" "is_way" (defArgs s_is_way) (defBody s_is_way) (defScope s_is_way) .none kV27 dc27 pm27 an27 cd27 ct27), sl27⟩) (c27 : PySem.W.codeIn K cd27 "is_way" = true) (k27 : PySem.W.keepIn K (.ref f27) = true)
    {f28 : Addr} {od28 an28 : Option Addr} {sl28 : Array (Option Value)} {oc28 kV28 dc28 pm28 cd28 ct28 : Value}
    (a28 : PySem.W.nsIn K mainGlobals "_law_breaches" = some (some (.ref f28)))
    (l28 : K.lookup f28 = some ⟨oc28, od28, .func (PySem.W.fnOf "_law_breaches" "_law_breaches" (defArgs s__law_breaches) (defBody s__law_breaches) (defScope s__law_breaches) .none kV28 dc28 pm28 an28 cd28 ct28), sl28⟩) (c28 : PySem.W.codeIn K cd28 "_law_breaches" = true) (k28 : PySem.W.keepIn K (.ref f28) = true)
    {f29 : Addr} {od29 an29 : Option Addr} {sl29 : Array (Option Value)} {oc29 kV29 dc29 pm29 cd29 ct29 : Value}
    (a29 : PySem.W.nsIn K mainGlobals "_law_limit" = some (some (.ref f29)))
    (l29 : K.lookup f29 = some ⟨oc29, od29, .func (PySem.W.fnOf "_law_limit" "_law_limit" (defArgs s__law_limit) (defBody s__law_limit) (defScope s__law_limit) .none kV29 dc29 pm29 an29 cd29 ct29), sl29⟩) (c29 : PySem.W.codeIn K cd29 "_law_limit" = true) (k29 : PySem.W.keepIn K (.ref f29) = true)
    {f30 : Addr} {od30 an30 : Option Addr} {sl30 : Array (Option Value)} {oc30 kV30 dc30 pm30 cd30 ct30 : Value}
    (a30 : PySem.W.findIn K (.ref K_Limit) "__init__" = some (some (.ref f30))) (b30 : PySem.W.isFn K (.ref f30) = true)
    (l30 : K.lookup f30 = some ⟨oc30, od30, .func (PySem.W.fnOf "__init__" "Limit.__init__" (defArgs s_Limit___init__) (defBody s_Limit___init__) (defScope s_Limit___init__) .none kV30 dc30 pm30 an30 cd30 ct30), sl30⟩) (c30 : PySem.W.codeIn K cd30 "Limit.__init__" = true) (k30 : PySem.W.keepIn K (.ref f30) = true)
    {f31 : Addr} {od31 an31 : Option Addr} {sl31 : Array (Option Value)} {oc31 kV31 dc31 pm31 cd31 ct31 : Value}
    (a31 : PySem.W.findIn K (.ref K_Book) "counts" = some (some (.ref f31))) (b31 : PySem.W.isFn K (.ref f31) = true)
    (l31 : K.lookup f31 = some ⟨oc31, od31, .func (PySem.W.fnOf "counts" "Book.counts" (defArgs s_Book_counts) (defBody s_Book_counts) (defScope s_Book_counts) .none kV31 dc31 pm31 an31 cd31 ct31), sl31⟩) (c31 : PySem.W.codeIn K cd31 "Book.counts" = true) (k31 : PySem.W.keepIn K (.ref f31) = true)
    {f32 : Addr} {od32 an32 : Option Addr} {sl32 : Array (Option Value)} {oc32 kV32 dc32 pm32 cd32 ct32 : Value}
    (a32 : PySem.W.findIn K (.ref K_Book) "breaches" = some (some (.ref f32))) (b32 : PySem.W.isFn K (.ref f32) = true)
    {T32 tn32 : Nat} {tc32 : Value} {td32 : Option Addr} {ts32 : Array (Option Value)} {tk32_0 : Tok}
    (l32 : K.lookup f32 = some ⟨oc32, od32, .func (PySem.W.fnOf "breaches" "Book.breaches" (defArgs s_Book_breaches) (defBody s_Book_breaches) (defScope s_Book_breaches) (.ref T32) kV32 dc32 pm32 an32 cd32 ct32), sl32⟩) (c32 : PySem.W.codeIn K cd32 "Book.breaches" = true) (k32 : PySem.W.keepIn K (.ref f32) = true)
    (lt32 : K.lookup T32 = some ⟨tc32, td32, .seq #[.str ⟨([] : List Nat).toArray⟩ tk32_0] tn32, ts32⟩)
    {f33 : Addr} {od33 an33 : Option Addr} {sl33 : Array (Option Value)} {oc33 kV33 dc33 pm33 cd33 ct33 : Value}
    (a33 : PySem.W.nsIn K mainGlobals "_law_book" = some (some (.ref f33)))
    (l33 : K.lookup f33 = some ⟨oc33, od33, .func (PySem.W.fnOf "_law_book" "_law_book" (defArgs s__law_book) (defBody s__law_book) (defScope s__law_book) .none kV33 dc33 pm33 an33 cd33 ct33), sl33⟩) (c33 : PySem.W.codeIn K cd33 "_law_book" = true) (k33 : PySem.W.keepIn K (.ref f33) = true)
    {f34 : Addr} {od34 an34 : Option Addr} {sl34 : Array (Option Value)} {oc34 kV34 dc34 pm34 cd34 ct34 : Value}
    (a34 : PySem.W.findIn K (.ref K_Book) "keeps" = some (some (.ref f34))) (b34 : PySem.W.isFn K (.ref f34) = true)
    {T34 tn34 : Nat} {tc34 : Value} {td34 : Option Addr} {ts34 : Array (Option Value)} {tk34_0 : Tok}
    (l34 : K.lookup f34 = some ⟨oc34, od34, .func (PySem.W.fnOf "keeps" "Book.keeps" (defArgs s_Book_keeps) (defBody s_Book_keeps) (defScope s_Book_keeps) (.ref T34) kV34 dc34 pm34 an34 cd34 ct34), sl34⟩) (c34 : PySem.W.codeIn K cd34 "Book.keeps" = true) (k34 : PySem.W.keepIn K (.ref f34) = true)
    (lt34 : K.lookup T34 = some ⟨tc34, td34, .seq #[.str ⟨([] : List Nat).toArray⟩ tk34_0] tn34, ts34⟩)
    {f35 : Addr} {od35 an35 : Option Addr} {sl35 : Array (Option Value)} {oc35 kV35 dc35 pm35 cd35 ct35 : Value}
    (a35 : PySem.W.findIn K (.ref K_Book) "__call__" = some (some (.ref f35))) (b35 : PySem.W.isFn K (.ref f35) = true)
    (fi35 : PySem.W.fnIn K f35 = true)
    (l35 : K.lookup f35 = some ⟨oc35, od35, .func (PySem.W.fnOf "__call__" "Book.__call__" (defArgs s_Book___call__) (defBody s_Book___call__) (defScope s_Book___call__) .none kV35 dc35 pm35 an35 cd35 ct35), sl35⟩) (c35 : PySem.W.codeIn K cd35 "Book.__call__" = true) (k35 : PySem.W.keepIn K (.ref f35) = true)
    {f36 : Addr} {od36 an36 : Option Addr} {sl36 : Array (Option Value)} {oc36 kV36 dc36 pm36 cd36 ct36 : Value}
    (a36 : PySem.W.nsIn K mainGlobals "_law_made" = some (some (.ref f36)))
    (l36 : K.lookup f36 = some ⟨oc36, od36, .func (PySem.W.fnOf "_law_made" "_law_made" (defArgs s__law_made) (defBody s__law_made) (defScope s__law_made) .none kV36 dc36 pm36 an36 cd36 ct36), sl36⟩) (c36 : PySem.W.codeIn K cd36 "_law_made" = true) (k36 : PySem.W.keepIn K (.ref f36) = true)
    {f37 : Addr} {od37 an37 : Option Addr} {sl37 : Array (Option Value)} {oc37 kV37 dc37 pm37 cd37 ct37 : Value}
    (a37 : PySem.W.nsIn K mainGlobals "_law_row_right" = some (some (.ref f37)))
    (l37 : K.lookup f37 = some ⟨oc37, od37, .func (PySem.W.fnOf "_law_row_right" "_law_row_right" (defArgs s__law_row_right) (defBody s__law_row_right) (defScope s__law_row_right) .none kV37 dc37 pm37 an37 cd37 ct37), sl37⟩) (c37 : PySem.W.codeIn K cd37 "_law_row_right" = true) (k37 : PySem.W.keepIn K (.ref f37) = true)
    {f38 : Addr} {od38 an38 : Option Addr} {sl38 : Array (Option Value)} {oc38 kV38 dc38 pm38 cd38 ct38 : Value}
    (a38 : PySem.W.nsIn K mainGlobals "law" = some (some (.ref f38)))
    (l38 : K.lookup f38 = some ⟨oc38, od38, .func (PySem.W.fnOf "law" "law" (defArgs s_law) (defBody s_law) (defScope s_law) .none kV38 dc38 pm38 an38 cd38 ct38), sl38⟩) (c38 : PySem.W.codeIn K cd38 "law" = true) (k38 : PySem.W.keepIn K (.ref f38) = true)
    (z0 : PySem.W.nsIn K mainGlobals "zip" = some none)
    (z1 : PySem.W.nsIn K mainGlobals "len" = some none)
    (z2 : PySem.W.nsIn K mainGlobals "int" = some none)
    (z3 : PySem.W.nsIn K mainGlobals "isinstance" = some none)
    (z4 : PySem.W.nsIn K mainGlobals "bool" = some none)
    (z5 : PySem.W.nsIn K mainGlobals "str" = some none)
    (z6 : PySem.W.nsIn K mainGlobals "all" = some none)
    (z7 : PySem.W.nsIn K mainGlobals "list" = some none)
    (z8 : PySem.W.nsIn K mainGlobals "abs" = some none)
    (z9 : PySem.W.nsIn K mainGlobals "max" = some none)
    (z10 : PySem.W.nsIn K mainGlobals "tuple" = some none)
    (z11 : PySem.W.nsIn K mainGlobals "min" = some none)
    (z12 : PySem.W.nsIn K mainGlobals "set" = some none)
    (z13 : PySem.W.nsIn K mainGlobals "range" = some none)
    (z14 : PySem.W.nsIn K mainGlobals "any" = some none)
    (z15 : PySem.W.nsIn K mainGlobals "sorted" = some none)
    {t0 : Tok} (y0 : PySem.W.nsIn K mainGlobals "MOST_UNITS" = some (some (.int 2000 t0)))
    {t1 : Tok} (y1 : PySem.W.nsIn K mainGlobals "LETTERS" = some (some (.str ⟨([100, 119, 97, 114] : List Nat).toArray⟩ t1)))
    {t2 : Tok} (y2 : PySem.W.nsIn K mainGlobals "MOST_LIMITS" = some (some (.int 4 t2)))
    {t3 : Tok} (y3 : PySem.W.nsIn K mainGlobals "MOST_STANDS" = some (some (.int 300 t3)))
    {t4 : Tok} (y4 : PySem.W.nsIn K mainGlobals "LONGEST_REST" = some (some (.int 12 t4)))
    {t5 : Tok} (y5 : PySem.W.nsIn K mainGlobals "GREATEST_MOST" = some (some (.int 40 t5)))
    {C_RestError N_RestError : Addr} {q_RestError : Str} {bs_RestError sub_RestError : List Value} {sn_RestError : List Str} {ab_RestError : Bool} {col_RestError : Option Bool} {dd_RestError : Option Addr} {m0_RestError m1_RestError m2_RestError m3_RestError m5_RestError : Option Value}
    (xn_RestError : PySem.W.nsIn K mainGlobals "RestError" = some (some (.ref C_RestError)))
    (xl_RestError : K.lookup C_RestError = some (excClassObj "RestError" q_RestError C_RestError N_RestError bs_RestError [.type "ValueError", .type "Exception", .type "BaseException", .type "object"] true sn_RestError sub_RestError ab_RestError col_RestError dd_RestError m0_RestError m1_RestError m2_RestError m3_RestError m5_RestError "ValueError.__new__"))
    (xs_RestError : PySem.W.findIn K (.ref C_RestError) "__setattr__" = some (some (.builtin "object.__setattr__")))
    (xg_RestError : PySem.W.findIn K (.ref C_RestError) "__getattribute__" = some (some (.builtin "BaseException.__getattribute__")))
    (xh_RestError : PySem.W.findIn K (.ref C_RestError) "__getattr__" = some (none))
    (xc_RestError : PySem.W.findIn K (.ref C_RestError) "__class__" = some (some (.builtin "object.__class__")))
    (xv_RestError : PySem.W.findIn K (.ref C_RestError) "given" = some (none))
    (xk_RestError : PySem.W.keepIn K (.ref C_RestError) = true)
    (br : PySem.W.readsIn K C_RestError (.type "type") = true) (bg : PySem.W.specialIn K (.ref C_RestError) "__getattribute__" = some (some (.builtin "type.__getattribute__"))) (bi : PySem.W.findCls K (.ref C_RestError) (.type "type") "__init__" = some (.val (.builtin "ValueError.__init__")))
    {C_BadRow N_BadRow : Addr} {q_BadRow : Str} {bs_BadRow sub_BadRow : List Value} {sn_BadRow : List Str} {ab_BadRow : Bool} {col_BadRow : Option Bool} {dd_BadRow : Option Addr} {m0_BadRow m1_BadRow m2_BadRow m3_BadRow m5_BadRow : Option Value}
    (xn_BadRow : PySem.W.nsIn K mainGlobals "BadRow" = some (some (.ref C_BadRow)))
    (xl_BadRow : K.lookup C_BadRow = some (excClassObj "BadRow" q_BadRow C_BadRow N_BadRow bs_BadRow [.ref C_RestError, .type "ValueError", .type "Exception", .type "BaseException", .type "object"] true sn_BadRow sub_BadRow ab_BadRow col_BadRow dd_BadRow m0_BadRow m1_BadRow m2_BadRow m3_BadRow m5_BadRow "ValueError.__new__"))
    (xs_BadRow : PySem.W.findIn K (.ref C_BadRow) "__setattr__" = some (some (.builtin "object.__setattr__")))
    (xg_BadRow : PySem.W.findIn K (.ref C_BadRow) "__getattribute__" = some (some (.builtin "BaseException.__getattribute__")))
    (xh_BadRow : PySem.W.findIn K (.ref C_BadRow) "__getattr__" = some (none))
    (xc_BadRow : PySem.W.findIn K (.ref C_BadRow) "__class__" = some (some (.builtin "object.__class__")))
    (xv_BadRow : PySem.W.findIn K (.ref C_BadRow) "given" = some (none))
    (xk_BadRow : PySem.W.keepIn K (.ref C_BadRow) = true)
    {g_BadRow : Addr} {god_BadRow gan_BadRow : Option Addr} {gsl_BadRow : Array (Option Value)} {goc_BadRow gkV_BadRow gdc_BadRow gpm_BadRow gcd_BadRow gct_BadRow : Value}
    (xi_BadRow : PySem.W.findIn K (.ref C_BadRow) "__init__" = some (some (.ref g_BadRow))) (xt_BadRow : PySem.W.typeIn K (.ref g_BadRow) = some (.type "function"))
    (gl_BadRow : K.lookup g_BadRow = some ⟨goc_BadRow, god_BadRow, .func (PySem.W.fnOf "__init__" "BadRow.__init__" (defArgs si_BadRow) (defBody si_BadRow) (defScope si_BadRow) .none gkV_BadRow gdc_BadRow gpm_BadRow gan_BadRow gcd_BadRow gct_BadRow), gsl_BadRow⟩) (gc_BadRow : PySem.W.codeIn K gcd_BadRow "BadRow.__init__" = true) (gk_BadRow : PySem.W.keepIn K (.ref g_BadRow) = true)
    {C_BadKinds N_BadKinds : Addr} {q_BadKinds : Str} {bs_BadKinds sub_BadKinds : List Value} {sn_BadKinds : List Str} {ab_BadKinds : Bool} {col_BadKinds : Option Bool} {dd_BadKinds : Option Addr} {m0_BadKinds m1_BadKinds m2_BadKinds m3_BadKinds m5_BadKinds : Option Value}
    (xn_BadKinds : PySem.W.nsIn K mainGlobals "BadKinds" = some (some (.ref C_BadKinds)))
    (xl_BadKinds : K.lookup C_BadKinds = some (excClassObj "BadKinds" q_BadKinds C_BadKinds N_BadKinds bs_BadKinds [.ref C_RestError, .type "ValueError", .type "Exception", .type "BaseException", .type "object"] true sn_BadKinds sub_BadKinds ab_BadKinds col_BadKinds dd_BadKinds m0_BadKinds m1_BadKinds m2_BadKinds m3_BadKinds m5_BadKinds "ValueError.__new__"))
    (xs_BadKinds : PySem.W.findIn K (.ref C_BadKinds) "__setattr__" = some (some (.builtin "object.__setattr__")))
    (xg_BadKinds : PySem.W.findIn K (.ref C_BadKinds) "__getattribute__" = some (some (.builtin "BaseException.__getattribute__")))
    (xh_BadKinds : PySem.W.findIn K (.ref C_BadKinds) "__getattr__" = some (none))
    (xc_BadKinds : PySem.W.findIn K (.ref C_BadKinds) "__class__" = some (some (.builtin "object.__class__")))
    (xv_BadKinds : PySem.W.findIn K (.ref C_BadKinds) "given" = some (none))
    (xk_BadKinds : PySem.W.keepIn K (.ref C_BadKinds) = true)
    {g_BadKinds : Addr} {god_BadKinds gan_BadKinds : Option Addr} {gsl_BadKinds : Array (Option Value)} {goc_BadKinds gkV_BadKinds gdc_BadKinds gpm_BadKinds gcd_BadKinds gct_BadKinds : Value}
    (xi_BadKinds : PySem.W.findIn K (.ref C_BadKinds) "__init__" = some (some (.ref g_BadKinds))) (xt_BadKinds : PySem.W.typeIn K (.ref g_BadKinds) = some (.type "function"))
    (gl_BadKinds : K.lookup g_BadKinds = some ⟨goc_BadKinds, god_BadKinds, .func (PySem.W.fnOf "__init__" "BadKinds.__init__" (defArgs si_BadKinds) (defBody si_BadKinds) (defScope si_BadKinds) .none gkV_BadKinds gdc_BadKinds gpm_BadKinds gan_BadKinds gcd_BadKinds gct_BadKinds), gsl_BadKinds⟩) (gc_BadKinds : PySem.W.codeIn K gcd_BadKinds "BadKinds.__init__" = true) (gk_BadKinds : PySem.W.keepIn K (.ref g_BadKinds) = true)
    {C_BadMost N_BadMost : Addr} {q_BadMost : Str} {bs_BadMost sub_BadMost : List Value} {sn_BadMost : List Str} {ab_BadMost : Bool} {col_BadMost : Option Bool} {dd_BadMost : Option Addr} {m0_BadMost m1_BadMost m2_BadMost m3_BadMost m5_BadMost : Option Value}
    (xn_BadMost : PySem.W.nsIn K mainGlobals "BadMost" = some (some (.ref C_BadMost)))
    (xl_BadMost : K.lookup C_BadMost = some (excClassObj "BadMost" q_BadMost C_BadMost N_BadMost bs_BadMost [.ref C_RestError, .type "ValueError", .type "Exception", .type "BaseException", .type "object"] true sn_BadMost sub_BadMost ab_BadMost col_BadMost dd_BadMost m0_BadMost m1_BadMost m2_BadMost m3_BadMost m5_BadMost "ValueError.__new__"))
    (xs_BadMost : PySem.W.findIn K (.ref C_BadMost) "__setattr__" = some (some (.builtin "object.__setattr__")))
    (xg_BadMost : PySem.W.findIn K (.ref C_BadMost) "__getattribute__" = some (some (.builtin "BaseException.__getattribute__")))
    (xh_BadMost : PySem.W.findIn K (.ref C_BadMost) "__getattr__" = some (none))
    (xc_BadMost : PySem.W.findIn K (.ref C_BadMost) "__class__" = some (some (.builtin "object.__class__")))
    (xv_BadMost : PySem.W.findIn K (.ref C_BadMost) "given" = some (none))
    (xk_BadMost : PySem.W.keepIn K (.ref C_BadMost) = true)
    {g_BadMost : Addr} {god_BadMost gan_BadMost : Option Addr} {gsl_BadMost : Array (Option Value)} {goc_BadMost gkV_BadMost gdc_BadMost gpm_BadMost gcd_BadMost gct_BadMost : Value}
    (xi_BadMost : PySem.W.findIn K (.ref C_BadMost) "__init__" = some (some (.ref g_BadMost))) (xt_BadMost : PySem.W.typeIn K (.ref g_BadMost) = some (.type "function"))
    (gl_BadMost : K.lookup g_BadMost = some ⟨goc_BadMost, god_BadMost, .func (PySem.W.fnOf "__init__" "BadMost.__init__" (defArgs si_BadMost) (defBody si_BadMost) (defScope si_BadMost) .none gkV_BadMost gdc_BadMost gpm_BadMost gan_BadMost gcd_BadMost gct_BadMost), gsl_BadMost⟩) (gc_BadMost : PySem.W.codeIn K gcd_BadMost "BadMost.__init__" = true) (gk_BadMost : PySem.W.keepIn K (.ref g_BadMost) = true)
    {C_BadWays N_BadWays : Addr} {q_BadWays : Str} {bs_BadWays sub_BadWays : List Value} {sn_BadWays : List Str} {ab_BadWays : Bool} {col_BadWays : Option Bool} {dd_BadWays : Option Addr} {m0_BadWays m1_BadWays m2_BadWays m3_BadWays m5_BadWays : Option Value}
    (xn_BadWays : PySem.W.nsIn K mainGlobals "BadWays" = some (some (.ref C_BadWays)))
    (xl_BadWays : K.lookup C_BadWays = some (excClassObj "BadWays" q_BadWays C_BadWays N_BadWays bs_BadWays [.ref C_RestError, .type "ValueError", .type "Exception", .type "BaseException", .type "object"] true sn_BadWays sub_BadWays ab_BadWays col_BadWays dd_BadWays m0_BadWays m1_BadWays m2_BadWays m3_BadWays m5_BadWays "ValueError.__new__"))
    (xs_BadWays : PySem.W.findIn K (.ref C_BadWays) "__setattr__" = some (some (.builtin "object.__setattr__")))
    (xg_BadWays : PySem.W.findIn K (.ref C_BadWays) "__getattribute__" = some (some (.builtin "BaseException.__getattribute__")))
    (xh_BadWays : PySem.W.findIn K (.ref C_BadWays) "__getattr__" = some (none))
    (xc_BadWays : PySem.W.findIn K (.ref C_BadWays) "__class__" = some (some (.builtin "object.__class__")))
    (xv_BadWays : PySem.W.findIn K (.ref C_BadWays) "given" = some (none))
    (xk_BadWays : PySem.W.keepIn K (.ref C_BadWays) = true)
    {g_BadWays : Addr} {god_BadWays gan_BadWays : Option Addr} {gsl_BadWays : Array (Option Value)} {goc_BadWays gkV_BadWays gdc_BadWays gpm_BadWays gcd_BadWays gct_BadWays : Value}
    (xi_BadWays : PySem.W.findIn K (.ref C_BadWays) "__init__" = some (some (.ref g_BadWays))) (xt_BadWays : PySem.W.typeIn K (.ref g_BadWays) = some (.type "function"))
    (gl_BadWays : K.lookup g_BadWays = some ⟨goc_BadWays, god_BadWays, .func (PySem.W.fnOf "__init__" "BadWays.__init__" (defArgs si_BadWays) (defBody si_BadWays) (defScope si_BadWays) .none gkV_BadWays gdc_BadWays gpm_BadWays gan_BadWays gcd_BadWays gct_BadWays), gsl_BadWays⟩) (gc_BadWays : PySem.W.codeIn K gcd_BadWays "BadWays.__init__" = true) (gk_BadWays : PySem.W.keepIn K (.ref g_BadWays) = true)
    {C_BadLimits N_BadLimits : Addr} {q_BadLimits : Str} {bs_BadLimits sub_BadLimits : List Value} {sn_BadLimits : List Str} {ab_BadLimits : Bool} {col_BadLimits : Option Bool} {dd_BadLimits : Option Addr} {m0_BadLimits m1_BadLimits m2_BadLimits m3_BadLimits m5_BadLimits : Option Value}
    (xn_BadLimits : PySem.W.nsIn K mainGlobals "BadLimits" = some (some (.ref C_BadLimits)))
    (xl_BadLimits : K.lookup C_BadLimits = some (excClassObj "BadLimits" q_BadLimits C_BadLimits N_BadLimits bs_BadLimits [.ref C_RestError, .type "ValueError", .type "Exception", .type "BaseException", .type "object"] true sn_BadLimits sub_BadLimits ab_BadLimits col_BadLimits dd_BadLimits m0_BadLimits m1_BadLimits m2_BadLimits m3_BadLimits m5_BadLimits "ValueError.__new__"))
    (xs_BadLimits : PySem.W.findIn K (.ref C_BadLimits) "__setattr__" = some (some (.builtin "object.__setattr__")))
    (xg_BadLimits : PySem.W.findIn K (.ref C_BadLimits) "__getattribute__" = some (some (.builtin "BaseException.__getattribute__")))
    (xh_BadLimits : PySem.W.findIn K (.ref C_BadLimits) "__getattr__" = some (none))
    (xc_BadLimits : PySem.W.findIn K (.ref C_BadLimits) "__class__" = some (some (.builtin "object.__class__")))
    (xv_BadLimits : PySem.W.findIn K (.ref C_BadLimits) "given" = some (none))
    (xk_BadLimits : PySem.W.keepIn K (.ref C_BadLimits) = true)
    {g_BadLimits : Addr} {god_BadLimits gan_BadLimits : Option Addr} {gsl_BadLimits : Array (Option Value)} {goc_BadLimits gkV_BadLimits gdc_BadLimits gpm_BadLimits gcd_BadLimits gct_BadLimits : Value}
    (xi_BadLimits : PySem.W.findIn K (.ref C_BadLimits) "__init__" = some (some (.ref g_BadLimits))) (xt_BadLimits : PySem.W.typeIn K (.ref g_BadLimits) = some (.type "function"))
    (gl_BadLimits : K.lookup g_BadLimits = some ⟨goc_BadLimits, god_BadLimits, .func (PySem.W.fnOf "__init__" "BadLimits.__init__" (defArgs si_BadLimits) (defBody si_BadLimits) (defScope si_BadLimits) .none gkV_BadLimits gdc_BadLimits gpm_BadLimits gan_BadLimits gcd_BadLimits gct_BadLimits), gsl_BadLimits⟩) (gc_BadLimits : PySem.W.codeIn K gcd_BadLimits "BadLimits.__init__" = true) (gk_BadLimits : PySem.W.keepIn K (.ref g_BadLimits) = true)
    {C_TooMany N_TooMany : Addr} {q_TooMany : Str} {bs_TooMany sub_TooMany : List Value} {sn_TooMany : List Str} {ab_TooMany : Bool} {col_TooMany : Option Bool} {dd_TooMany : Option Addr} {m0_TooMany m1_TooMany m2_TooMany m3_TooMany m5_TooMany : Option Value}
    (xn_TooMany : PySem.W.nsIn K mainGlobals "TooMany" = some (some (.ref C_TooMany)))
    (xl_TooMany : K.lookup C_TooMany = some (excClassObj "TooMany" q_TooMany C_TooMany N_TooMany bs_TooMany [.ref C_RestError, .type "ValueError", .type "Exception", .type "BaseException", .type "object"] true sn_TooMany sub_TooMany ab_TooMany col_TooMany dd_TooMany m0_TooMany m1_TooMany m2_TooMany m3_TooMany m5_TooMany "ValueError.__new__"))
    (xs_TooMany : PySem.W.findIn K (.ref C_TooMany) "__setattr__" = some (some (.builtin "object.__setattr__")))
    (xg_TooMany : PySem.W.findIn K (.ref C_TooMany) "__getattribute__" = some (some (.builtin "BaseException.__getattribute__")))
    (xh_TooMany : PySem.W.findIn K (.ref C_TooMany) "__getattr__" = some (none))
    (xc_TooMany : PySem.W.findIn K (.ref C_TooMany) "__class__" = some (some (.builtin "object.__class__")))
    (xv_TooMany : PySem.W.findIn K (.ref C_TooMany) "given" = some (none))
    (xk_TooMany : PySem.W.keepIn K (.ref C_TooMany) = true)
    (xz_BadText : PySem.W.nsIn K mainGlobals "BadText" = some none)
    (xz_BadUnit : PySem.W.nsIn K mainGlobals "BadUnit" = some none)
    (xz_BadUnits : PySem.W.nsIn K mainGlobals "BadUnits" = some none)
    (xz_NoStand : PySem.W.nsIn K mainGlobals "NoStand" = some none)
    (xz_BadReading : PySem.W.nsIn K mainGlobals "BadReading" = some none)
    (xz_BadPrices : PySem.W.nsIn K mainGlobals "BadPrices" = some none)
    (xz_BadStops : PySem.W.nsIn K mainGlobals "BadStops" = some none)
    (xz_BadNeed : PySem.W.nsIn K mainGlobals "BadNeed" = some none)
    (xz_BadName : PySem.W.nsIn K mainGlobals "BadName" = some none)
    (xz_BadClosed : PySem.W.nsIn K mainGlobals "BadClosed" = some none)
    (xz_NoNews : PySem.W.nsIn K mainGlobals "NoNews" = some none)
    (xz_NothingToUndo : PySem.W.nsIn K mainGlobals "NothingToUndo" = some none)
    : ∃ fd : FuncData, (∀ (s : Shared) (v : Value), BindsTo s fd ⟨[v], []⟩ [("_law_script", v)]) ∧ ∀ base : Heap, K.In base → base.Ns mainGlobals mg → FnOk l.prog w K mg base (L2.CX l.prog w) 9 fa fd ["_law_script"] (lowSp K sp_law) := by
  have e := hfa.symm.trans (PySem.W.mg_of X G a38)
  cases e
  have ex_RestError : ExF K C_RestError "RestError" C_RestError := ⟨xn_RestError, ⟨_, _, _, _, _, _, _, _, _, _, _, _, _, by rw [bmOf_rest]; exact xl_RestError⟩, xs_RestError, xg_RestError, xh_RestError, xc_RestError, xv_RestError, xk_RestError⟩
  have ex_BadRow : ExF K C_RestError "BadRow" C_BadRow := ⟨xn_BadRow, ⟨_, _, _, _, _, _, _, _, _, _, _, _, _, by rw [bmOf_other (by decide)]; exact xl_BadRow⟩, xs_BadRow, xg_BadRow, xh_BadRow, xc_BadRow, xv_BadRow, xk_BadRow⟩
  have ex_BadKinds : ExF K C_RestError "BadKinds" C_BadKinds := ⟨xn_BadKinds, ⟨_, _, _, _, _, _, _, _, _, _, _, _, _, by rw [bmOf_other (by decide)]; exact xl_BadKinds⟩, xs_BadKinds, xg_BadKinds, xh_BadKinds, xc_BadKinds, xv_BadKinds, xk_BadKinds⟩
  have ex_BadMost : ExF K C_RestError "BadMost" C_BadMost := ⟨xn_BadMost, ⟨_, _, _, _, _, _, _, _, _, _, _, _, _, by rw [bmOf_other (by decide)]; exact xl_BadMost⟩, xs_BadMost, xg_BadMost, xh_BadMost, xc_BadMost, xv_BadMost, xk_BadMost⟩
  have ex_BadWays : ExF K C_RestError "BadWays" C_BadWays := ⟨xn_BadWays, ⟨_, _, _, _, _, _, _, _, _, _, _, _, _, by rw [bmOf_other (by decide)]; exact xl_BadWays⟩, xs_BadWays, xg_BadWays, xh_BadWays, xc_BadWays, xv_BadWays, xk_BadWays⟩
  have ex_BadLimits : ExF K C_RestError "BadLimits" C_BadLimits := ⟨xn_BadLimits, ⟨_, _, _, _, _, _, _, _, _, _, _, _, _, by rw [bmOf_other (by decide)]; exact xl_BadLimits⟩, xs_BadLimits, xg_BadLimits, xh_BadLimits, xc_BadLimits, xv_BadLimits, xk_BadLimits⟩
  have ex_TooMany : ExF K C_RestError "TooMany" C_TooMany := ⟨xn_TooMany, ⟨_, _, _, _, _, _, _, _, _, _, _, _, _, by rw [bmOf_other (by decide)]; exact xl_TooMany⟩, xs_TooMany, xg_TooMany, xh_TooMany, xc_TooMany, xv_TooMany, xk_TooMany⟩
  have tab : Tab K := tab_mk [some C_RestError, some C_BadRow, none, some C_BadKinds, some C_BadMost, some C_BadWays, none, none, some C_BadLimits, some C_TooMany, none, none, none, none, none, none, none, none, none] ex_RestError ⟨ex_RestError, ex_BadRow, xz_BadText, ex_BadKinds, ex_BadMost, ex_BadWays, xz_BadUnit, xz_BadUnits, ex_BadLimits, ex_TooMany, xz_NoStand, xz_BadReading, xz_BadPrices, xz_BadStops, xz_BadNeed, xz_BadName, xz_BadClosed, xz_NoNews, xz_NothingToUndo, trivial⟩
  have bas : BaseK K mg "RestError" := ⟨⟨_, PySem.W.mg_of X G xn_RestError, xk_RestError, ⟨br, bg⟩, bi⟩⟩
  have E : LawEnv K mg := {
    nob := by
      intro x hx
      simp only [List.mem_cons, List.not_mem_nil, or_false] at hx
      rcases hx with rfl | rfl | rfl | rfl | rfl | rfl | rfl | rfl | rfl | rfl | rfl | rfl | rfl | rfl | rfl | rfl
      · exact PySem.W.mg_none_of X G z0
      · exact PySem.W.mg_none_of X G z1
      · exact PySem.W.mg_none_of X G z2
      · exact PySem.W.mg_none_of X G z3
      · exact PySem.W.mg_none_of X G z4
      · exact PySem.W.mg_none_of X G z5
      · exact PySem.W.mg_none_of X G z6
      · exact PySem.W.mg_none_of X G z7
      · exact PySem.W.mg_none_of X G z8
      · exact PySem.W.mg_none_of X G z9
      · exact PySem.W.mg_none_of X G z10
      · exact PySem.W.mg_none_of X G z11
      · exact PySem.W.mg_none_of X G z12
      · exact PySem.W.mg_none_of X G z13
      · exact PySem.W.mg_none_of X G z14
      · exact PySem.W.mg_none_of X G z15
    c_MOST_UNITS := ⟨t0, PySem.W.mg_of X G y0⟩
    c_LETTERS := ⟨t1, PySem.W.mg_of X G y1⟩
    c_MOST_LIMITS := ⟨t2, PySem.W.mg_of X G y2⟩
    c_MOST_STANDS := ⟨t3, PySem.W.mg_of X G y3⟩
    c_LONGEST_REST := ⟨t4, PySem.W.mg_of X G y4⟩
    c_GREATEST_MOST := ⟨t5, PySem.W.mg_of X G y5⟩
    tab := tab
    f_Limit_ends := ⟨_, cn_Limit, ⟨cp_Limit, ch_Limit, co_Limit, cs_Limit⟩, na_Limit_ends⟩
    f_Book_rules := ⟨_, cn_Book, ⟨cp_Book, ch_Book, co_Book, cs_Book⟩, na_Book_rules⟩
    f_Limit_bound := ⟨_, cn_Limit, ⟨cp_Limit, ch_Limit, co_Limit, cs_Limit⟩, na_Limit_bound⟩
    f_Limit_letters := ⟨_, cn_Limit, ⟨cp_Limit, ch_Limit, co_Limit, cs_Limit⟩, na_Limit_letters⟩
    f_Book_cap := ⟨_, cn_Book, ⟨cp_Book, ch_Book, co_Book, cs_Book⟩, na_Book_cap⟩
    f_Book_first := ⟨_, cn_Book, ⟨cp_Book, ch_Book, co_Book, cs_Book⟩, na_Book_first⟩
    f_Book_steps := ⟨_, cn_Book, ⟨cp_Book, ch_Book, co_Book, cs_Book⟩, na_Book_steps⟩
    i_Limit := ⟨_, cn_Limit, PySem.W.mg_of X G cn_Limit, ⟨cp_Limit, ch_Limit, co_Limit, cs_Limit⟩, ca_Limit, cr_Limit, ct_Limit, ci_Limit⟩
  }
  refine ⟨PySem.W.fnOf "law" "law" (defArgs s_law) (defBody s_law) (defScope s_law) .none kV38 dc38 pm38 an38 cd38 ct38, fun s v => .of_eq rfl, fun base _ _ => ?_⟩
  have Fx_BadRow := fun_mk (st := si_BadRow) gl_BadRow gc_BadRow gk_BadRow
  have x_BadRow : ExcD l.prog w K mg base 1 "BadRow" := excD_mk ex_BadRow (by decide) (PySem.W.mg_of X G xn_BadRow) xi_BadRow xt_BadRow (okx_BadRow bas Fx_BadRow) (Fx_BadRow.binds (ps := ["self", "given"]) fun _ _ _ _ _ _ us hl => (match us, hl with | [_, _], _ => rfl))
  have Fx_BadKinds := fun_mk (st := si_BadKinds) gl_BadKinds gc_BadKinds gk_BadKinds
  have x_BadKinds : ExcD l.prog w K mg base 1 "BadKinds" := excD_mk ex_BadKinds (by decide) (PySem.W.mg_of X G xn_BadKinds) xi_BadKinds xt_BadKinds (okx_BadKinds bas Fx_BadKinds) (Fx_BadKinds.binds (ps := ["self", "given"]) fun _ _ _ _ _ _ us hl => (match us, hl with | [_, _], _ => rfl))
  have Fx_BadLimits := fun_mk (st := si_BadLimits) gl_BadLimits gc_BadLimits gk_BadLimits
  have x_BadLimits : ExcD l.prog w K mg base 1 "BadLimits" := excD_mk ex_BadLimits (by decide) (PySem.W.mg_of X G xn_BadLimits) xi_BadLimits xt_BadLimits (okx_BadLimits bas Fx_BadLimits) (Fx_BadLimits.binds (ps := ["self", "given"]) fun _ _ _ _ _ _ us hl => (match us, hl with | [_, _], _ => rfl))
  have Fx_BadMost := fun_mk (st := si_BadMost) gl_BadMost gc_BadMost gk_BadMost
  have x_BadMost : ExcD l.prog w K mg base 1 "BadMost" := excD_mk ex_BadMost (by decide) (PySem.W.mg_of X G xn_BadMost) xi_BadMost xt_BadMost (okx_BadMost bas Fx_BadMost) (Fx_BadMost.binds (ps := ["self", "given"]) fun _ _ _ _ _ _ us hl => (match us, hl with | [_, _], _ => rfl))
  have Fx_BadWays := fun_mk (st := si_BadWays) gl_BadWays gc_BadWays gk_BadWays
  have x_BadWays : ExcD l.prog w K mg base 1 "BadWays" := excD_mk ex_BadWays (by decide) (PySem.W.mg_of X G xn_BadWays) xi_BadWays xt_BadWays (okx_BadWays bas Fx_BadWays) (Fx_BadWays.binds (ps := ["self", "given"]) fun _ _ _ _ _ _ us hl => (match us, hl with | [_, _], _ => rfl))
  have F_Limit_marks_behind := fun_mk (st := s_Limit_marks_behind) l0 c0 k0
  have o_Limit_marks_behind := ok_Limit_marks_behind (base := base) (P := l.prog) (w := w) E F_Limit_marks_behind
  have m_Limit_marks_behind : MetD l.prog w K mg base 1 "Limit" "marks_behind" ["self", "marks", "unit", "rest"] [] sp_Limit_marks_behind := ⟨_, _, _, _, _, cn_Limit, ⟨cp_Limit, ch_Limit, co_Limit, cs_Limit⟩, ⟨a0, b0, k0⟩, o_Limit_marks_behind, F_Limit_marks_behind.binds (ps := ["self", "marks", "unit", "rest"]) fun _ _ _ _ _ _ us hl => (match us, hl with | [_, _, _, _], _ => rfl), .nil, fun _ => .nil⟩
  have F_Limit_is_full := fun_mk (st := s_Limit_is_full) l1 c1 k1
  have o_Limit_is_full := ok_Limit_is_full (base := base) (P := l.prog) (w := w) E F_Limit_is_full
  have m_Limit_is_full : MetD l.prog w K mg base 1 "Limit" "is_full" ["self", "marks", "rest"] [] sp_Limit_is_full := ⟨_, _, _, _, _, cn_Limit, ⟨cp_Limit, ch_Limit, co_Limit, cs_Limit⟩, ⟨a1, b1, k1⟩, o_Limit_is_full, F_Limit_is_full.binds (ps := ["self", "marks", "rest"]) fun _ _ _ _ _ _ us hl => (match us, hl with | [_, _, _], _ => rfl), .nil, fun _ => .nil⟩
  have F_Book___len__ := fun_mk (st := s_Book___len__) l2 c2 k2
  have o_Book___len__ := ok_Book___len__ (base := base) (P := l.prog) (w := w) E F_Book___len__
  have l_Book : LenO l.prog w K mg base 1 "Book" sp_Book___len__ := ⟨_, _, _, cn_Book, ⟨a2, b2, k2⟩, o_Book___len__, F_Book___len__.binds (ps := ["self"]) fun _ _ _ _ _ _ us hl => (match us, hl with | [_], _ => rfl)⟩
  have F_is_whole := fun_mk (st := s_is_whole) l3 c3 k3
  have o_is_whole := ok_is_whole (base := base) (P := l.prog) (w := w) E F_is_whole
  have c_is_whole : CalD l.prog w K mg base 1 "is_whole" ["value"] sp_is_whole := ⟨f3, _, o_is_whole, F_is_whole.binds (ps := ["value"]) fun _ _ _ _ _ _ us hl => (match us, hl with | [_], _ => rfl), PySem.W.mg_of X G a3, k3⟩
  have F_is_row := fun_mk (st := s_is_row) l4 c4 k4
  have o_is_row := ok_is_row (base := base) (P := l.prog) (w := w) E F_is_row
  have c_is_row : CalD l.prog w K mg base 1 "is_row" ["value"] sp_is_row := ⟨f4, _, o_is_row, F_is_row.binds (ps := ["value"]) fun _ _ _ _ _ _ us hl => (match us, hl with | [_], _ => rfl), PySem.W.mg_of X G a4, k4⟩
  have F__law_bag := fun_mk (st := s__law_bag) l5 c5 k5
  have o__law_bag := ok__law_bag (base := base) (P := l.prog) (w := w) E F__law_bag
  have c__law_bag : CalD l.prog w K mg base 1 "_law_bag" ["_law_script"] sp__law_bag := ⟨f5, _, o__law_bag, F__law_bag.binds (ps := ["_law_script"]) fun _ _ _ _ _ _ us hl => (match us, hl with | [_], _ => rfl), PySem.W.mg_of X G a5, k5⟩
  have F__law_draw := fun_mk (st := s__law_draw) l6 c6 k6
  have o__law_draw := ok__law_draw (base := base) (P := l.prog) (w := w) E F__law_draw
  have c__law_draw : CalD l.prog w K mg base 1 "_law_draw" ["_law_bag_here", "_law_size"] sp__law_draw := ⟨f6, _, o__law_draw, F__law_draw.binds (ps := ["_law_bag_here", "_law_size"]) fun _ _ _ _ _ _ us hl => (match us, hl with | [_, _], _ => rfl), PySem.W.mg_of X G a6, k6⟩
  have F__law_top := fun_mk (st := s__law_top) l7 c7 k7
  have o__law_top := ok__law_top (base := base) (P := l.prog) (w := w) E F__law_top
  have c__law_top : CalD l.prog w K mg base 1 "_law_top" ["_law_plain"] sp__law_top := ⟨f7, _, o__law_top, F__law_top.binds (ps := ["_law_plain"]) fun _ _ _ _ _ _ us hl => (match us, hl with | [_], _ => rfl), PySem.W.mg_of X G a7, k7⟩
  have F__law_fresh := fun_mk (st := s__law_fresh) l8 c8 k8
  have o__law_fresh := ok__law_fresh (base := base) (P := l.prog) (w := w) E F__law_fresh
  have c__law_fresh : CalD l.prog w K mg base 1 "_law_fresh" ["_law_plain"] sp__law_fresh := ⟨f8, _, o__law_fresh, F__law_fresh.binds (ps := ["_law_plain"]) fun _ _ _ _ _ _ us hl => (match us, hl with | [_], _ => rfl), PySem.W.mg_of X G a8, k8⟩
  have F__law_mark := fun_mk (st := s__law_mark) l9 c9 k9
  have o__law_mark := ok__law_mark (base := base) (P := l.prog) (w := w) E F__law_mark
  have c__law_mark : CalD l.prog w K mg base 1 "_law_mark" ["_law_way", "_law_mark_here", "_law_unit", "_law_rest"] sp__law_mark := ⟨f9, _, o__law_mark, F__law_mark.binds (ps := ["_law_way", "_law_mark_here", "_law_unit", "_law_rest"]) fun _ _ _ _ _ _ us hl => (match us, hl with | [_, _, _, _], _ => rfl), PySem.W.mg_of X G a9, k9⟩
  have F__law_is_full := fun_mk (st := s__law_is_full) l10 c10 k10
  have o__law_is_full := ok__law_is_full (base := base) (P := l.prog) (w := w) E F__law_is_full
  have c__law_is_full : CalD l.prog w K mg base 1 "_law_is_full" ["_law_way", "_law_mark_here", "_law_rest"] sp__law_is_full := ⟨f10, _, o__law_is_full, F__law_is_full.binds (ps := ["_law_way", "_law_mark_here", "_law_rest"]) fun _ _ _ _ _ _ us hl => (match us, hl with | [_, _, _], _ => rfl), PySem.W.mg_of X G a10, k10⟩
  have F_Limit_counted := fun_mk (st := s_Limit_counted) l11 c11 k11
  have o_Limit_counted := ok_Limit_counted (base := base) (P := l.prog) (w := w) E m_Limit_marks_behind m_Limit_is_full F_Limit_counted
  have m_Limit_counted : MetD l.prog w K mg base 2 "Limit" "counted" ["self", "count", "marks", "unit", "rest"] [] sp_Limit_counted := ⟨_, _, _, _, _, cn_Limit, ⟨cp_Limit, ch_Limit, co_Limit, cs_Limit⟩, ⟨a11, b11, k11⟩, o_Limit_counted, F_Limit_counted.binds (ps := ["self", "count", "marks", "unit", "rest"]) fun _ _ _ _ _ _ us hl => (match us, hl with | [_, _, _, _, _], _ => rfl), .nil, fun _ => .nil⟩
  have F_is_integer := fun_mk (st := s_is_integer) l12 c12 k12
  have o_is_integer := ok_is_integer (base := base) (P := l.prog) (w := w) E c_is_whole F_is_integer
  have c_is_integer : CalD l.prog w K mg base 2 "is_integer" ["value", "least"] sp_is_integer := ⟨f12, _, o_is_integer, F_is_integer.binds (ps := ["value", "least"]) fun _ _ _ _ _ _ us hl => (match us, hl with | [_, _], _ => rfl), PySem.W.mg_of X G a12, k12⟩
  have F_is_kinds := fun_mk (st := s_is_kinds) l13 c13 k13
  have o_is_kinds := ok_is_kinds (base := base) (P := l.prog) (w := w) E c_is_row F_is_kinds
  have c_is_kinds : CalD l.prog w K mg base 2 "is_kinds" ["value"] sp_is_kinds := ⟨f13, _, o_is_kinds, F_is_kinds.binds (ps := ["value"]) fun _ _ _ _ _ _ us hl => (match us, hl with | [_], _ => rfl), PySem.W.mg_of X G a13, k13⟩
  have F__law_pick := fun_mk (st := s__law_pick) l14 c14 k14
  have o__law_pick := ok__law_pick (base := base) (P := l.prog) (w := w) E c__law_draw F__law_pick
  have c__law_pick : CalD l.prog w K mg base 2 "_law_pick" ["_law_bag_here", "_law_items"] sp__law_pick := ⟨f14, _, o__law_pick, F__law_pick.binds (ps := ["_law_bag_here", "_law_items"]) fun _ _ _ _ _ _ us hl => (match us, hl with | [_, _], _ => rfl), PySem.W.mg_of X G a14, k14⟩
  have F__law_mixed := fun_mk (st := s__law_mixed) l15 c15 k15
  have o__law_mixed := ok__law_mixed (base := base) (P := l.prog) (w := w) E c__law_draw F__law_mixed
  have c__law_mixed : CalD l.prog w K mg base 2 "_law_mixed" ["_law_bag_here", "_law_items"] sp__law_mixed := ⟨f15, _, o__law_mixed, F__law_mixed.binds (ps := ["_law_bag_here", "_law_items"]) fun _ _ _ _ _ _ us hl => (match us, hl with | [_, _], _ => rfl), PySem.W.mg_of X G a15, k15⟩
  have F__law_step := fun_mk (st := s__law_step) l16 c16 k16
  have o__law_step := ok__law_step (base := base) (P := l.prog) (w := w) E c__law_top c__law_mark c__law_is_full F__law_step
  have c__law_step : CalD l.prog w K mg base 2 "_law_step" ["_law_plain", "_law_stand_here", "_law_unit"] sp__law_step := ⟨f16, _, o__law_step, F__law_step.binds (ps := ["_law_plain", "_law_stand_here", "_law_unit"]) fun _ _ _ _ _ _ us hl => (match us, hl with | [_, _, _], _ => rfl), PySem.W.mg_of X G a16, k16⟩
  have F__law_row := fun_mk (st := s__law_row) l17 c17 k17
  have o__law_row := ok__law_row (base := base) (P := l.prog) (w := w) E c__law_draw F__law_row
  have c__law_row : CalD l.prog w K mg base 2 "_law_row" ["_law_bag_here", "_law_most"] sp__law_row := ⟨f17, _, o__law_row, F__law_row.binds (ps := ["_law_bag_here", "_law_most"]) fun _ _ _ _ _ _ us hl => (match us, hl with | [_, _], _ => rfl), PySem.W.mg_of X G a17, k17⟩
  have F_Book_step := fun_mk (st := s_Book_step) l18 c18 k18
  have o_Book_step := ok_Book_step (base := base) (P := l.prog) (w := w) E m_Limit_counted F_Book_step
  have m_Book_step : MetD l.prog w K mg base 3 "Book" "step" ["self", "stand", "unit"] [] sp_Book_step := ⟨_, _, _, _, _, cn_Book, ⟨cp_Book, ch_Book, co_Book, cs_Book⟩, ⟨a18, b18, k18⟩, o_Book_step, F_Book_step.binds (ps := ["self", "stand", "unit"]) fun _ _ _ _ _ _ us hl => (match us, hl with | [_, _, _], _ => rfl), .nil, fun _ => .nil⟩
  have F_check_row := fun_mk (st := s_check_row) l19 c19 k19
  have o_check_row := ok_check_row (base := base) (P := l.prog) (w := w) E c_is_row x_BadRow F_check_row
  have c_check_row : CalD l.prog w K mg base 3 "check_row" ["row"] sp_check_row := ⟨f19, _, o_check_row, F_check_row.binds (ps := ["row"]) fun _ _ _ _ _ _ us hl => (match us, hl with | [_], _ => rfl), PySem.W.mg_of X G a19, k19⟩
  have F_check_kinds := fun_mk (st := s_check_kinds) l20 c20 k20
  have o_check_kinds := ok_check_kinds (base := base) (P := l.prog) (w := w) E c_is_kinds x_BadKinds F_check_kinds
  have c_check_kinds : CalD l.prog w K mg base 3 "check_kinds" ["kinds"] sp_check_kinds := ⟨f20, _, o_check_kinds, F_check_kinds.binds (ps := ["kinds"]) fun _ _ _ _ _ _ us hl => (match us, hl with | [_], _ => rfl), PySem.W.mg_of X G a20, k20⟩
  have F_is_between := fun_mk (st := s_is_between) l21 c21 k21
  have o_is_between := ok_is_between (base := base) (P := l.prog) (w := w) E c_is_integer F_is_between
  have c_is_between : CalD l.prog w K mg base 3 "is_between" ["value", "least", "most"] sp_is_between := ⟨f21, _, o_is_between, F_is_between.binds (ps := ["value", "least", "most"]) fun _ _ _ _ _ _ us hl => (match us, hl with | [_, _, _], _ => rfl), PySem.W.mg_of X G a21, k21⟩
  have F__law_stand := fun_mk (st := s__law_stand) l22 c22 k22
  have o__law_stand := ok__law_stand (base := base) (P := l.prog) (w := w) E c__law_fresh c__law_step F__law_stand
  have c__law_stand : CalD l.prog w K mg base 3 "_law_stand" ["_law_plain", "_law_row_here"] sp__law_stand := ⟨f22, _, o__law_stand, F__law_stand.binds (ps := ["_law_plain", "_law_row_here"]) fun _ _ _ _ _ _ us hl => (match us, hl with | [_, _], _ => rfl), PySem.W.mg_of X G a22, k22⟩
  have F__law_stands := fun_mk (st := s__law_stands) l23 c23 k23
  have o__law_stands := ok__law_stands (base := base) (P := l.prog) (w := w) E c__law_fresh c__law_step F__law_stands
  have c__law_stands : CalD l.prog w K mg base 3 "_law_stands" ["_law_plain", "_law_most"] sp__law_stands := ⟨f23, _, o__law_stands, F__law_stands.binds (ps := ["_law_plain", "_law_most"]) fun _ _ _ _ _ _ us hl => (match us, hl with | [_, _], _ => rfl), PySem.W.mg_of X G a23, k23⟩
  have F__law_kinds := fun_mk (st := s__law_kinds) l24 c24 k24
  have o__law_kinds := ok__law_kinds (base := base) (P := l.prog) (w := w) E c__law_draw c__law_mixed F__law_kinds
  have c__law_kinds : CalD l.prog w K mg base 3 "_law_kinds" ["_law_bag_here"] sp__law_kinds := ⟨f24, _, o__law_kinds, F__law_kinds.binds (ps := ["_law_bag_here"]) fun _ _ _ _ _ _ us hl => (match us, hl with | [_], _ => rfl), PySem.W.mg_of X G a24, k24⟩
  have F_Book___init__ := fun_mk (st := s_Book___init__) l25 c25 k25
  have o_Book___init__ := ok_Book___init__ (base := base) (P := l.prog) (w := w) E m_Book_step x_BadLimits F_Book___init__
  have k_Book : MkD l.prog w K mg base 4 "Book" ["self", "limits"] [] sp_Book___init__ := ⟨_, _, _, _, _, cn_Book, PySem.W.mg_of X G cn_Book, ⟨cm_Book, a25, b25, ck_Book⟩, o_Book___init__, F_Book___init__.binds (ps := ["self", "limits"]) fun _ _ _ _ _ _ us hl => (match us, hl with | [_, _], _ => rfl), .nil, fun _ => .nil⟩
  have F_Book_stand := fun_mk (st := s_Book_stand) l26 c26 k26
  have o_Book_stand := ok_Book_stand (base := base) (P := l.prog) (w := w) E c_check_row F_Book_stand
  have m_Book_stand : MetD l.prog w K mg base 4 "Book" "stand" ["self", "row"] [] sp_Book_stand := ⟨_, _, _, _, _, cn_Book, ⟨cp_Book, ch_Book, co_Book, cs_Book⟩, ⟨a26, b26, k26⟩, o_Book_stand, F_Book_stand.binds (ps := ["self", "row"]) fun _ _ _ _ _ _ us hl => (match us, hl with | [_, _], _ => rfl), .nil, fun _ => .nil⟩
  have F_is_way := fun_mk (st := s_is_way) l27 c27 k27
  have o_is_way := ok_is_way (base := base) (P := l.prog) (w := w) E c_is_between F_is_way
  have c_is_way : CalD l.prog w K mg base 4 "is_way" ["value"] sp_is_way := ⟨f27, _, o_is_way, F_is_way.binds (ps := ["value"]) fun _ _ _ _ _ _ us hl => (match us, hl with | [_], _ => rfl), PySem.W.mg_of X G a27, k27⟩
  have F__law_breaches := fun_mk (st := s__law_breaches) l28 c28 k28
  have o__law_breaches := ok__law_breaches (base := base) (P := l.prog) (w := w) E c__law_stand c__law_step F__law_breaches
  have c__law_breaches : CalD l.prog w K mg base 4 "_law_breaches" ["_law_plain", "_law_before", "_law_row_here"] sp__law_breaches := ⟨f28, _, o__law_breaches, F__law_breaches.binds (ps := ["_law_plain", "_law_before", "_law_row_here"]) fun _ _ _ _ _ _ us hl => (match us, hl with | [_, _, _], _ => rfl), PySem.W.mg_of X G a28, k28⟩
  have F__law_limit := fun_mk (st := s__law_limit) l29 c29 k29
  have o__law_limit := ok__law_limit (base := base) (P := l.prog) (w := w) E c__law_draw c__law_kinds F__law_limit
  have c__law_limit : CalD l.prog w K mg base 4 "_law_limit" ["_law_bag_here", "_law_size", "_law_longest"] sp__law_limit := ⟨f29, _, o__law_limit, F__law_limit.binds (ps := ["_law_bag_here", "_law_size", "_law_longest"]) fun _ _ _ _ _ _ us hl => (match us, hl with | [_, _, _], _ => rfl), PySem.W.mg_of X G a29, k29⟩
  have F_Limit___init__ := fun_mk (st := s_Limit___init__) l30 c30 k30
  have o_Limit___init__ := ok_Limit___init__ (base := base) (P := l.prog) (w := w) E c_check_kinds c_is_between c_is_way x_BadMost x_BadWays F_Limit___init__
  have k_Limit : MkD l.prog w K mg base 5 "Limit" ["self", "kinds", "most", "ways"] [] sp_Limit___init__ := ⟨_, _, _, _, _, cn_Limit, PySem.W.mg_of X G cn_Limit, ⟨cm_Limit, a30, b30, ck_Limit⟩, o_Limit___init__, F_Limit___init__.binds (ps := ["self", "kinds", "most", "ways"]) fun _ _ _ _ _ _ us hl => (match us, hl with | [_, _, _, _], _ => rfl), .nil, fun _ => .nil⟩
  have F_Book_counts := fun_mk (st := s_Book_counts) l31 c31 k31
  have o_Book_counts := ok_Book_counts (base := base) (P := l.prog) (w := w) E m_Book_stand F_Book_counts
  have m_Book_counts : MetD l.prog w K mg base 5 "Book" "counts" ["self", "row"] [] sp_Book_counts := ⟨_, _, _, _, _, cn_Book, ⟨cp_Book, ch_Book, co_Book, cs_Book⟩, ⟨a31, b31, k31⟩, o_Book_counts, F_Book_counts.binds (ps := ["self", "row"]) fun _ _ _ _ _ _ us hl => (match us, hl with | [_, _], _ => rfl), .nil, fun _ => .nil⟩
  have F_Book_breaches : FunD K "breaches" "Book.breaches" (defArgs s_Book_breaches) (defBody s_Book_breaches) (defScope s_Book_breaches) [.str ⟨([] : List Nat).toArray⟩] [] f32 _ := ⟨⟨_, _, _, _, _, _, _, _, _, _, rfl, l32, c32, .inr ⟨by decide, _, _, _, _, rfl, lt32, rfl, (.cons ⟨_, rfl⟩ .nil)⟩, .inl rfl⟩, k32⟩
  have o_Book_breaches := ok_Book_breaches (base := base) (P := l.prog) (w := w) E c_check_row m_Book_stand F_Book_breaches
  have m_Book_breaches : MetD l.prog w K mg base 5 "Book" "breaches" ["self", "row", "before"] [] sp_Book_breaches := by
    obtain ⟨ds, v, b⟩ := F_Book_breaches.binds1 (ps := ["self", "row", "before"]) 3 1 (by decide) (by decide) fun _ _ _ _ _ _ _ us its hu hi => (match us, hu, its, hi with | [_, _, _], _, [_], _ => ⟨_, rfl, rfl⟩)
    exact ⟨_, _, _, _, _, cn_Book, ⟨cp_Book, ch_Book, co_Book, cs_Book⟩, ⟨a32, b32, k32⟩, o_Book_breaches, b, v, fun _ => .nil⟩
  have m_Book_breaches_2 : MetD l.prog w K mg base 5 "Book" "breaches" ["self", "row", "before"] [.str []] sp_Book_breaches := by
    obtain ⟨ds, v, b⟩ := F_Book_breaches.binds1 (ps := ["self", "row", "before"]) 2 0 (by decide) (by decide) fun _ _ _ _ _ _ _ us its hu hi => (match us, hu, its, hi with | [_, _], _, [_], _ => ⟨_, rfl, rfl⟩)
    exact ⟨_, _, _, _, _, cn_Book, ⟨cp_Book, ch_Book, co_Book, cs_Book⟩, ⟨a32, b32, k32⟩, o_Book_breaches, b, v, fun _ => (.cons (.str _) .nil)⟩
  have F__law_book := fun_mk (st := s__law_book) l33 c33 k33
  have o__law_book := ok__law_book (base := base) (P := l.prog) (w := w) E c__law_draw c__law_limit c__law_stands F__law_book
  have c__law_book : CalD l.prog w K mg base 5 "_law_book" ["_law_bag_here", "_law_most_stands"] sp__law_book := ⟨f33, _, o__law_book, F__law_book.binds (ps := ["_law_bag_here", "_law_most_stands"]) fun _ _ _ _ _ _ us hl => (match us, hl with | [_, _], _ => rfl), PySem.W.mg_of X G a33, k33⟩
  have F_Book_keeps : FunD K "keeps" "Book.keeps" (defArgs s_Book_keeps) (defBody s_Book_keeps) (defScope s_Book_keeps) [.str ⟨([] : List Nat).toArray⟩] [] f34 _ := ⟨⟨_, _, _, _, _, _, _, _, _, _, rfl, l34, c34, .inr ⟨by decide, _, _, _, _, rfl, lt34, rfl, (.cons ⟨_, rfl⟩ .nil)⟩, .inl rfl⟩, k34⟩
  have o_Book_keeps := ok_Book_keeps (base := base) (P := l.prog) (w := w) E m_Book_breaches F_Book_keeps
  have m_Book_keeps_2 : MetD l.prog w K mg base 6 "Book" "keeps" ["self", "row", "before"] [.str []] sp_Book_keeps := by
    obtain ⟨ds, v, b⟩ := F_Book_keeps.binds1 (ps := ["self", "row", "before"]) 2 0 (by decide) (by decide) fun _ _ _ _ _ _ _ us its hu hi => (match us, hu, its, hi with | [_, _], _, [_], _ => ⟨_, rfl, rfl⟩)
    exact ⟨_, _, _, _, _, cn_Book, ⟨cp_Book, ch_Book, co_Book, cs_Book⟩, ⟨a34, b34, k34⟩, o_Book_keeps, b, v, fun _ => (.cons (.str _) .nil)⟩
  have m_Book_keeps : MetD l.prog w K mg base 6 "Book" "keeps" ["self", "row", "before"] [] sp_Book_keeps := by
    obtain ⟨ds, v, b⟩ := F_Book_keeps.binds1 (ps := ["self", "row", "before"]) 3 1 (by decide) (by decide) fun _ _ _ _ _ _ _ us its hu hi => (match us, hu, its, hi with | [_, _, _], _, [_], _ => ⟨_, rfl, rfl⟩)
    exact ⟨_, _, _, _, _, cn_Book, ⟨cp_Book, ch_Book, co_Book, cs_Book⟩, ⟨a34, b34, k34⟩, o_Book_keeps, b, v, fun _ => .nil⟩
  have F_Book___call__ := fun_mk (st := s_Book___call__) l35 c35 k35
  have o_Book___call__ := ok_Book___call__ (base := base) (P := l.prog) (w := w) E m_Book_keeps_2 F_Book___call__
  have o_Book : ObjC l.prog w K mg base 7 "Book" ["self", "row"] sp_Book___call__ := ⟨_, _, _, cn_Book, ⟨a35, b35, fi35⟩, o_Book___call__, F_Book___call__.binds (ps := ["self", "row"]) fun _ _ _ _ _ _ us hl => (match us, hl with | [_, _], _ => rfl)⟩
  have F__law_made := fun_mk (st := s__law_made) l36 c36 k36
  have o__law_made := ok__law_made (base := base) (P := l.prog) (w := w) E k_Book k_Limit F__law_made
  have c__law_made : CalD l.prog w K mg base 7 "_law_made" ["_law_plain"] sp__law_made := ⟨f36, _, o__law_made, F__law_made.binds (ps := ["_law_plain"]) fun _ _ _ _ _ _ us hl => (match us, hl with | [_], _ => rfl), PySem.W.mg_of X G a36, k36⟩
  have F__law_row_right := fun_mk (st := s__law_row_right) l37 c37 k37
  have o__law_row_right := ok__law_row_right (base := base) (P := l.prog) (w := w) E c__law_breaches c__law_mixed c__law_stand m_Book_breaches m_Book_breaches_2 m_Book_keeps m_Book_keeps_2 m_Book_counts o_Book F__law_row_right
  have c__law_row_right : CalD l.prog w K mg base 8 "_law_row_right" ["_law_bag_here", "_law_book_here", "_law_plain", "_law_row_here", "_law_before"] sp__law_row_right := ⟨f37, _, o__law_row_right, F__law_row_right.binds (ps := ["_law_bag_here", "_law_book_here", "_law_plain", "_law_row_here", "_law_before"]) fun _ _ _ _ _ _ us hl => (match us, hl with | [_, _, _, _, _], _ => rfl), PySem.W.mg_of X G a37, k37⟩
  have F_law := fun_mk (st := s_law) l38 c38 k38
  exact ok_law E c__law_bag c__law_book c__law_made c__law_row c__law_draw c__law_pick c__law_row_right l_Book F_law
theorem law_here {K : PySem.W.Frag} {H : Hp} {a : Addr} {ns : List Int} (hS : SqL K H a (ns.map V.int)) : lowSp K sp_law [.ref a] H (fun v _ => v = .bl true) fun _ _ _ => False :=
  ⟨[.scr ns], fun _ => none, H, fun d _ => d = .bl true, fun _ _ _ => False, .cons (.scr hS) .nil, ⟨Same.refl H, fun _ _ e => (by cases e), fun _ _ e => (by cases e)⟩, ⟨ns, rfl, fun _ => rfl⟩, fun d m v G H _ _ r e => by
    subst e
    cases r
    rfl, fun _ _ _ _ _ _ _ _ _ _ h => h⟩
end DL
open PySem PySem.W PyProof.Rows
set_option maxHeartbeats 0 in
theorem PySem.Challenge.cw_restbooks_k16_rows_counted_holds : PySem.Challenge.rw_restbooks_k16_rows_counted.Holds := by
  w_on; o_law; k_head; (case hw => w_witness2)
  k_fill
  refine L2.walk_of (l := PySem.Challenge.rw_restbooks_k16_rows_counted) (n := 63) (k := 9) (x := "_law_script") (CX := fun w => L2.CX PySem.Challenge.rw_restbooks_k16_rows_counted.prog w) (sp := fun w => DL.lowSp _ DL.sp_law) rfl (by decide) rfl ⟨rfl, by decide, by decide⟩ (fun w h Y => PySem.W.kIn_of Y) ?F (fun _ _ a ns hl _ hS => DL.law_here hS) (fun _ _ _ _ _ ⟨_, _, _, _, _, _, _, _, _, _, _, _, h⟩ => h)
  case F =>
    intro w mg fa h KX G hmg
    refine' DL.all_mk (l := PySem.Challenge.rw_restbooks_k16_rows_counted) KX G hmg ?cn_Limit ?cp_Limit ?ch_Limit ?co_Limit ?cs_Limit ?cm_Limit ?ck_Limit ?ca_Limit ?cr_Limit ?ct_Limit ?ci_Limit ?cn_Book ?cp_Book ?ch_Book ?co_Book ?cs_Book ?cm_Book ?ck_Book ?na_Limit_ends ?na_Book_rules ?na_Limit_bound ?na_Limit_letters ?na_Book_cap ?na_Book_first ?na_Book_steps ?a0 ?b0 ?l0 ?c0 ?k0 ?a1 ?b1 ?l1 ?c1 ?k1 ?a2 ?b2 ?l2 ?c2 ?k2 ?a3 ?l3 ?c3 ?k3 ?a4 ?l4 ?c4 ?k4 ?a5 ?l5 ?c5 ?k5 ?a6 ?l6 ?c6 ?k6 ?a7 ?l7 ?c7 ?k7 ?a8 ?l8 ?c8 ?k8 ?a9 ?l9 ?c9 ?k9 ?a10 ?l10 ?c10 ?k10 ?a11 ?b11 ?l11 ?c11 ?k11 ?a12 ?l12 ?c12 ?k12 ?a13 ?l13 ?c13 ?k13 ?a14 ?l14 ?c14 ?k14 ?a15 ?l15 ?c15 ?k15 ?a16 ?l16 ?c16 ?k16 ?a17 ?l17 ?c17 ?k17 ?a18 ?b18 ?l18 ?c18 ?k18 ?a19 ?l19 ?c19 ?k19 ?a20 ?l20 ?c20 ?k20 ?a21 ?l21 ?c21 ?k21 ?a22 ?l22 ?c22 ?k22 ?a23 ?l23 ?c23 ?k23 ?a24 ?l24 ?c24 ?k24 ?a25 ?b25 ?l25 ?c25 ?k25 ?a26 ?b26 ?l26 ?c26 ?k26 ?a27 ?l27 ?c27 ?k27 ?a28 ?l28 ?c28 ?k28 ?a29 ?l29 ?c29 ?k29 ?a30 ?b30 ?l30 ?c30 ?k30 ?a31 ?b31 ?l31 ?c31 ?k31 ?a32 ?b32 ?l32 ?c32 ?k32 ?lt32 ?a33 ?l33 ?c33 ?k33 ?a34 ?b34 ?l34 ?c34 ?k34 ?lt34 ?a35 ?b35 ?fi35 ?l35 ?c35 ?k35 ?a36 ?l36 ?c36 ?k36 ?a37 ?l37 ?c37 ?k37 ?a38 ?l38 ?c38 ?k38 ?z0 ?z1 ?z2 ?z3 ?z4 ?z5 ?z6 ?z7 ?z8 ?z9 ?z10 ?z11 ?z12 ?z13 ?z14 ?z15 ?y0 ?y1 ?y2 ?y3 ?y4 ?y5 ?xn_RestError ?xl_RestError ?xs_RestError ?xg_RestError ?xh_RestError ?xc_RestError ?xv_RestError ?xk_RestError ?br ?bg ?bi ?xn_BadRow ?xl_BadRow ?xs_BadRow ?xg_BadRow ?xh_BadRow ?xc_BadRow ?xv_BadRow ?xk_BadRow ?xi_BadRow ?xt_BadRow ?gl_BadRow ?gc_BadRow ?gk_BadRow ?xn_BadKinds ?xl_BadKinds ?xs_BadKinds ?xg_BadKinds ?xh_BadKinds ?xc_BadKinds ?xv_BadKinds ?xk_BadKinds ?xi_BadKinds ?xt_BadKinds ?gl_BadKinds ?gc_BadKinds ?gk_BadKinds ?xn_BadMost ?xl_BadMost ?xs_BadMost ?xg_BadMost ?xh_BadMost ?xc_BadMost ?xv_BadMost ?xk_BadMost ?xi_BadMost ?xt_BadMost ?gl_BadMost ?gc_BadMost ?gk_BadMost ?xn_BadWays ?xl_BadWays ?xs_BadWays ?xg_BadWays ?xh_BadWays ?xc_BadWays ?xv_BadWays ?xk_BadWays ?xi_BadWays ?xt_BadWays ?gl_BadWays ?gc_BadWays ?gk_BadWays ?xn_BadLimits ?xl_BadLimits ?xs_BadLimits ?xg_BadLimits ?xh_BadLimits ?xc_BadLimits ?xv_BadLimits ?xk_BadLimits ?xi_BadLimits ?xt_BadLimits ?gl_BadLimits ?gc_BadLimits ?gk_BadLimits ?xn_TooMany ?xl_TooMany ?xs_TooMany ?xg_TooMany ?xh_TooMany ?xc_TooMany ?xv_TooMany ?xk_TooMany ?xz_BadText ?xz_BadUnit ?xz_BadUnits ?xz_NoStand ?xz_BadReading ?xz_BadPrices ?xz_BadStops ?xz_BadNeed ?xz_BadName ?xz_BadClosed ?xz_NoNews ?xz_NothingToUndo
    case cn_Limit => k_is
    case cp_Limit => k_is
    case ch_Limit => k_is
    case co_Limit => k_is
    case cs_Limit => k_is
    case cm_Limit => k_is
    case ck_Limit => k_is
    case ca_Limit => k_is
    case cr_Limit => k_is
    case ct_Limit => k_is
    case ci_Limit => k_is
    case cn_Book => k_is
    case cp_Book => k_is
    case ch_Book => k_is
    case co_Book => k_is
    case cs_Book => k_is
    case cm_Book => k_is
    case ck_Book => k_is
    case na_Limit_ends => k_is
    case na_Book_rules => k_is
    case na_Limit_bound => k_is
    case na_Limit_letters => k_is
    case na_Book_cap => k_is
    case na_Book_first => k_is
    case na_Book_steps => k_is
    case a0 => k_is
    case b0 => k_is
    case l0 => k_is
    case c0 => k_is
    case k0 => k_is
    case a1 => k_is
    case b1 => k_is
    case l1 => k_is
    case c1 => k_is
    case k1 => k_is
    case a2 => k_is
    case b2 => k_is
    case l2 => k_is
    case c2 => k_is
    case k2 => k_is
    case a3 => k_is
    case l3 => k_is
    case c3 => k_is
    case k3 => k_is
    case a4 => k_is
    case l4 => k_is
    case c4 => k_is
    case k4 => k_is
    case a5 => k_is
    case l5 => k_is
    case c5 => k_is
    case k5 => k_is
    case a6 => k_is
    case l6 => k_is
    case c6 => k_is
    case k6 => k_is
    case a7 => k_is
    case l7 => k_is
    case c7 => k_is
    case k7 => k_is
    case a8 => k_is
    case l8 => k_is
    case c8 => k_is
    case k8 => k_is
    case a9 => k_is
    case l9 => k_is
    case c9 => k_is
    case k9 => k_is
    case a10 => k_is
    case l10 => k_is
    case c10 => k_is
    case k10 => k_is
    case a11 => k_is
    case b11 => k_is
    case l11 => k_is
    case c11 => k_is
    case k11 => k_is
    case a12 => k_is
    case l12 => k_is
    case c12 => k_is
    case k12 => k_is
    case a13 => k_is
    case l13 => k_is
    case c13 => k_is
    case k13 => k_is
    case a14 => k_is
    case l14 => k_is
    case c14 => k_is
    case k14 => k_is
    case a15 => k_is
    case l15 => k_is
    case c15 => k_is
    case k15 => k_is
    case a16 => k_is
    case l16 => k_is
    case c16 => k_is
    case k16 => k_is
    case a17 => k_is
    case l17 => k_is
    case c17 => k_is
    case k17 => k_is
    case a18 => k_is
    case b18 => k_is
    case l18 => k_is
    case c18 => k_is
    case k18 => k_is
    case a19 => k_is
    case l19 => k_is
    case c19 => k_is
    case k19 => k_is
    case a20 => k_is
    case l20 => k_is
    case c20 => k_is
    case k20 => k_is
    case a21 => k_is
    case l21 => k_is
    case c21 => k_is
    case k21 => k_is
    case a22 => k_is
    case l22 => k_is
    case c22 => k_is
    case k22 => k_is
    case a23 => k_is
    case l23 => k_is
    case c23 => k_is
    case k23 => k_is
    case a24 => k_is
    case l24 => k_is
    case c24 => k_is
    case k24 => k_is
    case a25 => k_is
    case b25 => k_is
    case l25 => k_is
    case c25 => k_is
    case k25 => k_is
    case a26 => k_is
    case b26 => k_is
    case l26 => k_is
    case c26 => k_is
    case k26 => k_is
    case a27 => k_is
    case l27 => k_is
    case c27 => k_is
    case k27 => k_is
    case a28 => k_is
    case l28 => k_is
    case c28 => k_is
    case k28 => k_is
    case a29 => k_is
    case l29 => k_is
    case c29 => k_is
    case k29 => k_is
    case a30 => k_is
    case b30 => k_is
    case l30 => k_is
    case c30 => k_is
    case k30 => k_is
    case a31 => k_is
    case b31 => k_is
    case l31 => k_is
    case c31 => k_is
    case k31 => k_is
    case a32 => k_is
    case b32 => k_is
    case l32 => k_is
    case c32 => k_is
    case k32 => k_is
    case lt32 => k_is
    case a33 => k_is
    case l33 => k_is
    case c33 => k_is
    case k33 => k_is
    case a34 => k_is
    case b34 => k_is
    case l34 => k_is
    case c34 => k_is
    case k34 => k_is
    case lt34 => k_is
    case a35 => k_is
    case b35 => k_is
    case fi35 => k_is
    case l35 => k_is
    case c35 => k_is
    case k35 => k_is
    case a36 => k_is
    case l36 => k_is
    case c36 => k_is
    case k36 => k_is
    case a37 => k_is
    case l37 => k_is
    case c37 => k_is
    case k37 => k_is
    case a38 => k_is
    case l38 => k_is
    case c38 => k_is
    case k38 => k_is
    case z0 => k_is
    case z1 => k_is
    case z2 => k_is
    case z3 => k_is
    case z4 => k_is
    case z5 => k_is
    case z6 => k_is
    case z7 => k_is
    case z8 => k_is
    case z9 => k_is
    case z10 => k_is
    case z11 => k_is
    case z12 => k_is
    case z13 => k_is
    case z14 => k_is
    case z15 => k_is
    case y0 => k_is
    case y1 => k_is
    case y2 => k_is
    case y3 => k_is
    case y4 => k_is
    case y5 => k_is
    case xn_RestError => k_is
    case xl_RestError => k_is
    case xs_RestError => k_is
    case xg_RestError => k_is
    case xh_RestError => k_is
    case xc_RestError => k_is
    case xv_RestError => k_is
    case xk_RestError => k_is
    case br => k_is
    case bg => k_is
    case bi => k_is
    case xn_BadRow => k_is
    case xl_BadRow => k_is
    case xs_BadRow => k_is
    case xg_BadRow => k_is
    case xh_BadRow => k_is
    case xc_BadRow => k_is
    case xv_BadRow => k_is
    case xk_BadRow => k_is
    case xi_BadRow => k_is
    case xt_BadRow => k_is
    case gl_BadRow => k_is
    case gc_BadRow => k_is
    case gk_BadRow => k_is
    case xn_BadKinds => k_is
    case xl_BadKinds => k_is
    case xs_BadKinds => k_is
    case xg_BadKinds => k_is
    case xh_BadKinds => k_is
    case xc_BadKinds => k_is
    case xv_BadKinds => k_is
    case xk_BadKinds => k_is
    case xi_BadKinds => k_is
    case xt_BadKinds => k_is
    case gl_BadKinds => k_is
    case gc_BadKinds => k_is
    case gk_BadKinds => k_is
    case xn_BadMost => k_is
    case xl_BadMost => k_is
    case xs_BadMost => k_is
    case xg_BadMost => k_is
    case xh_BadMost => k_is
    case xc_BadMost => k_is
    case xv_BadMost => k_is
    case xk_BadMost => k_is
    case xi_BadMost => k_is
    case xt_BadMost => k_is
    case gl_BadMost => k_is
    case gc_BadMost => k_is
    case gk_BadMost => k_is
    case xn_BadWays => k_is
    case xl_BadWays => k_is
    case xs_BadWays => k_is
    case xg_BadWays => k_is
    case xh_BadWays => k_is
    case xc_BadWays => k_is
    case xv_BadWays => k_is
    case xk_BadWays => k_is
    case xi_BadWays => k_is
    case xt_BadWays => k_is
    case gl_BadWays => k_is
    case gc_BadWays => k_is
    case gk_BadWays => k_is
    case xn_BadLimits => k_is
    case xl_BadLimits => k_is
    case xs_BadLimits => k_is
    case xg_BadLimits => k_is
    case xh_BadLimits => k_is
    case xc_BadLimits => k_is
    case xv_BadLimits => k_is
    case xk_BadLimits => k_is
    case xi_BadLimits => k_is
    case xt_BadLimits => k_is
    case gl_BadLimits => k_is
    case gc_BadLimits => k_is
    case gk_BadLimits => k_is
    case xn_TooMany => k_is
    case xl_TooMany => k_is
    case xs_TooMany => k_is
    case xg_TooMany => k_is
    case xh_TooMany => k_is
    case xc_TooMany => k_is
    case xv_TooMany => k_is
    case xk_TooMany => k_is
    case xz_BadText => k_is
    case xz_BadUnit => k_is
    case xz_BadUnits => k_is
    case xz_NoStand => k_is
    case xz_BadReading => k_is
    case xz_BadPrices => k_is
    case xz_BadStops => k_is
    case xz_BadNeed => k_is
    case xz_BadName => k_is
    case xz_BadClosed => k_is
    case xz_NoNews => k_is
    case xz_NothingToUndo => k_is
