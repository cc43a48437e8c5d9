import PyProof.Rows.All
import Wide.All
import OpenK.AllK
import Wide.FinOn
import HandS.ForMost
import HandS.ExcInit
import HandS.ExcValue
import HandS.ForExc
import HandS.IsInst
import HandS.CallSlots
import HandS.FStr
import KE.KDictKeyed
import HandS.Lambda
import HandS.Nested
import HandS.Style
import HandS.Flow
import HandS.Conv
import HandS.DeepEq
import KE.KDictList
import HandS.Strs
import HandS.ClsMeth
import HandS.TryMany
import HandS.ExcField
import HandS.ExcIs
import HandS.ForDict
import HandS.Property
import KE.GoesNew
import HandS.Defaults
import KE.SortData
import PyProof.CollectStr
import HandS.Dict
import HandS.DictComp
import HandS.TupLen
import KE.KDictDisplayH
import HandS.Star
import OpenK.KOps
import KE.KDictCopyH
import KE.KDictSum
import HandS.DictEq
import HandS.Deep
import HandS.NoneIn
import PyProof.NeKinds
import KE.DataMinKey
import HandS.TupLe
import HandS.ExcOwn
import HandS.EndTab
import KE.KNest
import HandS.Iter
import HandS.Finally
import HandS.TupSets
import KE.KOpsOwn
import HandS.TupAny
import OpenK.KMeth
import HandS.SortInts
import HandS.ExcBuiltin
import PySem.Challenge.RW_restbooks_k14_what_is_no_row_and_no_kind
set_option Elab.async false
set_option linter.all false
set_option maxRecDepth 100000
set_option maxHeartbeats 4000000
/-! DL: readings over data trees. D: a value with what it holds; Mem: the objects that may still change, by address. -/
namespace DL
open PySem PySem.Spec PyProof.Rows L2

/-- the words of a lambda -/
structure LS where
  qual : Str
  params : Arguments
  body : Expr
  scope : Scope
/-- at f: a function made of a lambda; cl, the cells that it took; c, its code object -/
def LamO (f : Addr) (S : LS) (cl : List (Str × Addr)) (c : Addr) : HO := .ext fun h => ∃ (od : Option Addr) (sl : Array (Option Value)) (pm ctv : Value), h.get? f = some (⟨.type "function", od, .func (PySem.W.kla_fn "<lambda>" S.qual S.params S.body S.scope cl pm (.ref c) ctv), sl⟩ : Obj)
inductive D where
  | non | bl (b : Bool) | int (i : Int) | str (cs : List Nat) | ref (a : Addr) | ty (n : String)
  | tup (ds : List D) | lst (ds : List D) | scr (ns : List Int)
  | ins (nm : Str) (fs : List (Str × D))
  | exc (a : Addr) (c : Value) (o : Option Addr) (nm : Str) (fs : List (Str × D))
  | dct (t : Bool) (kvs : List (D × D))
  | fn (f : Addr) (S : LS) (cl : List (Str × Addr)) (c : Addr) (ws : List (Option V)) (cs : List (Option D))

/-- the class of that name, as the module has it -/
def ClsI (K : PySem.W.Frag) (nm : Str) (C : Addr) : Prop := PySem.W.nsIn K mainGlobals nm = some (some (.ref C))
/-- the exceptions of the program; which of them a clause takes -/
def excL : List Str := ["RestError", "BadRow", "BadText", "BadKinds", "BadMost", "BadWays", "BadUnit", "BadUnits", "BadLimits", "TooMany", "NoStand", "BadReading", "BadPrices", "BadStops", "BadNeed", "BadName", "BadClosed", "NoNews", "NothingToUndo"]
def isSub (a b : Str) : Bool := a == b || b == "RestError"
/-- the class of that name, as the module has it -/
def ClsK (K : PySem.W.Frag) (nm : Str) (c : Value) : Prop := nm ∈ excL ∧ PySem.W.nsIn K mainGlobals nm = some (some c)
/-- keys: ints and texts; tuples of ints, of such tuples .. -/
def keyOf : D → Option Key
  | .int i => some (.inl i)
  | .str cs => some (.inr ⟨cs.toArray⟩)
  | _ => none
mutual
def nkOf : D → Option NestedKey
  | .int i => some (.num i)
  | .tup ds => (nkAll ds).map .tup
  | _ => none
def nkAll : List D → Option (List NestedKey)
  | [] => some []
  | d :: ds => (nkOf d).bind fun k => (nkAll ds).map (k :: ·)
end
/-- at p: a dict whose keys are tuples, each at an address of its own -/
def dNo (p : Addr) (ep : Nat) (xs : List (NestedKey × Addr × V)) : HO := .ext fun h => ∃ (w : World) (o : Obj) (es : Array DictEntry) (us : List Value), Vals (xs.map (·.2.2)) us ∧ h.get? p = some o ∧ o.ExactDict ∧ o.data = .dict es ep ∧ es.toList = (xs.zip us).map fun z => (⟨z.1.1.hash w, .ref z.1.2.1, z.2⟩ : DictEntry)

mutual
inductive Rep (K : PySem.W.Frag) (H : Hp) : D → V → Prop
  | non : Rep K H .non .non
  | bl (b : Bool) : Rep K H (.bl b) (.bl b)
  | int (i : Int) : Rep K H (.int i) (.int i)
  | str (cs : List Nat) : Rep K H (.str cs) (.str ⟨cs.toArray⟩)
  | ref (a : Addr) : Rep K H (.ref a) (.ref a)
  | ty (n : String) : Rep K H (.ty n) (.ty n)
  | tup {p : Addr} {ds : List D} {vs : List V} : H p = some (.tup vs) → Reps K H ds vs → Rep K H (.tup ds) (.ref p)
  | lst {p : Addr} {ds : List D} {vs : List V} : H p = some (.lst vs) → Reps K H ds vs → Rep K H (.lst ds) (.ref p)
  | scr {p : Addr} {ns : List Int} : SqL K H p (ns.map V.int) → Rep K H (.scr ns) (.ref p)
  | ins {p C dx : Addr} {nm : Str} {fs : List (Str × D)} {gs : List (Str × V)} : ClsI K nm C → H p = some (.ins C dx gs) → RepF K H fs gs → Rep K H (.ins nm fs) (.ref p)
  | exc {a dd : Addr} {nm : Str} {c : Value} {fs : List (Str × D)} {gs : List (Str × V)} : ClsK K nm c → H dd = some (.xd gs) → RepF K H fs gs → Rep K H (.exc a c (some dd) nm fs) (.ref a)
  | exc0 {a : Addr} {nm : Str} {c : Value} : ClsK K nm c → Rep K H (.exc a c none nm []) (.ref a)
  | exv {a dd C : Addr} {nm : Str} {fs : List (Str × D)} {gs : List (Str × V)} : ClsK K nm (.ref C) → H a = some (exo a C (some dd)) → H dd = some (exd dd gs) → RepF K H fs gs → Rep K H (.exc a .none none nm fs) (.ref a)
  | exv0 {a C : Addr} {nm : Str} : ClsK K nm (.ref C) → H a = some (ExO (.ref C) a) → Rep K H (.exc a .none none nm []) (.ref a)
  | dK {p : Addr} {od : Obj} {kvs : List (D × D)} {us : List (Key × V)} : H p = some (.frz od (.dK us)) → RepK K H kvs us → Rep K H (.dct false kvs) (.ref p)
  | dT {p : Addr} {ep : Nat} {kvs : List (D × D)} {xs : List (NestedKey × Addr × V)} : H p = some (dNo p ep xs) → (p == sysModules) = false → xs.length ≤ sizeLine → (xs.map (·.1)).Nodup → RepT K H kvs xs → Rep K H (.dct true kvs) (.ref p)
  | fn {f c : Addr} {S : LS} {cl : List (Str × Addr)} {ws : List (Option V)} {cs : List (Option D)} : H f = some (LamO f S cl c) → H c = some (LamX.CodeO c S.qual) → RepC K H cs ws → Rep K H (.fn f S cl c ws cs) (.ref f)
/-- what captured cells hold -/
inductive RepC (K : PySem.W.Frag) (H : Hp) : List (Option D) → List (Option V) → Prop
  | nil : RepC K H [] []
  | no {o : Option V} {r : List (Option D)} {s : List (Option V)} : RepC K H r s → RepC K H (none :: r) (o :: s)
  | yes {d : D} {v : V} {r : List (Option D)} {s : List (Option V)} : Rep K H d v → RepC K H r s → RepC K H (some d :: r) (some v :: s)
inductive Reps (K : PySem.W.Frag) (H : Hp) : List D → List V → Prop
  | nil : Reps K H [] []
  | cons {d : D} {v : V} {ds : List D} {vs : List V} : Rep K H d v → Reps K H ds vs → Reps K H (d :: ds) (v :: vs)
inductive RepF (K : PySem.W.Frag) (H : Hp) : List (Str × D) → List (Str × V) → Prop
  | nil : RepF K H [] []
  | cons {f : Str} {d : D} {v : V} {fs : List (Str × D)} {gs : List (Str × V)} : Rep K H d v → RepF K H fs gs → RepF K H ((f, d) :: fs) ((f, v) :: gs)
inductive RepK (K : PySem.W.Frag) (H : Hp) : List (D × D) → List (Key × V) → Prop
  | nil : RepK K H [] []
  | cons {d e : D} {k : Key} {v : V} {r : List (D × D)} {s : List (Key × V)} : keyOf d = some k → Rep K H e v → RepK K H r s → RepK K H ((d, e) :: r) ((k, v) :: s)
inductive RepT (K : PySem.W.Frag) (H : Hp) : List (D × D) → List (NestedKey × Addr × V) → Prop
  | nil : RepT K H [] []
  | cons {d e : D} {k : NestedKey} {a : Addr} {v : V} {r : List (D × D)} {s : List (NestedKey × Addr × V)} : nkOf d = some k → k.depth ≤ 8 → Rep K H d (.ref a) → Rep K H e v → RepT K H r s → RepT K H ((d, e) :: r) ((k, a, v) :: s)
end

section
variable {K : PySem.W.Frag} {H H' : Hp}
mutual
theorem Rep.mono (e : Same H H') : ∀ {d : D} {v : V}, Rep K H d v → Rep K H' d v
  | _, _, .non => .non
  | _, _, .bl b => .bl b
  | _, _, .int i => .int i
  | _, _, .str c => .str c
  | _, _, .ref a => .ref a
  | _, _, .ty n => .ty n
  | _, _, .tup h r => .tup (e _ _ h) (Reps.mono e r)
  | _, _, .lst h r => .lst (e _ _ h) (Reps.mono e r)
  | _, _, .scr h => .scr (e.seq h)
  | _, _, .ins c h r => .ins c (e _ _ h) (RepF.mono e r)
  | _, _, .exc c h r => .exc c (e _ _ h) (RepF.mono e r)
  | _, _, .exc0 c => .exc0 c
  | _, _, .exv c h k r => .exv c (e _ _ h) (e _ _ k) (RepF.mono e r)
  | _, _, .exv0 c h => .exv0 c (e _ _ h)
  | _, _, .dK h r => .dK (e _ _ h) (RepK.mono e r)
  | _, _, .dT h z l n r => .dT (e _ _ h) z l n (RepT.mono e r)
  | _, _, .fn h k r => .fn (e _ _ h) (e _ _ k) (RepC.mono e r)
theorem RepC.mono (e : Same H H') : ∀ {ds : List (Option D)} {vs : List (Option V)}, RepC K H ds vs → RepC K H' ds vs
  | _, _, .nil => .nil
  | _, _, .no r => .no (RepC.mono e r)
  | _, _, .yes h r => .yes (Rep.mono e h) (RepC.mono e r)
theorem Reps.mono (e : Same H H') : ∀ {ds : List D} {vs : List V}, Reps K H ds vs → Reps K H' ds vs
  | _, _, .nil => .nil
  | _, _, .cons h r => .cons (Rep.mono e h) (Reps.mono e r)
theorem RepF.mono (e : Same H H') : ∀ {ds : List (Str × D)} {vs : List (Str × V)}, RepF K H ds vs → RepF K H' ds vs
  | _, _, .nil => .nil
  | _, _, .cons h r => .cons (Rep.mono e h) (RepF.mono e r)
theorem RepK.mono (e : Same H H') : ∀ {ds : List (D × D)} {vs : List (Key × V)}, RepK K H ds vs → RepK K H' ds vs
  | _, _, .nil => .nil
  | _, _, .cons k h r => .cons k (Rep.mono e h) (RepK.mono e r)
theorem RepT.mono (e : Same H H') : ∀ {ds : List (D × D)} {vs : List (NestedKey × Addr × V)}, RepT K H ds vs → RepT K H' ds vs
  | _, _, .nil => .nil
  | _, _, .cons k z g h r => .cons k z (Rep.mono e g) (Rep.mono e h) (RepT.mono e r)
end
theorem Reps.length : ∀ {ds : List D} {vs : List V}, Reps K H ds vs → ds.length = vs.length
  | _, _, .nil => rfl
  | _, _, .cons _ r => by rw [List.length_cons, List.length_cons, Reps.length r]
theorem Reps.get : ∀ {ds : List D} {vs : List V} {i : Nat} {d : D}, Reps K H ds vs → ds[i]? = some d → ∃ v, vs[i]? = some v ∧ Rep K H d v
  | _, _, _, _, .nil, h => by simp at h
  | _, _, 0, _, .cons h r, e => by
    simp at e
    subst e
    exact ⟨_, rfl, h⟩
  | _, _, i + 1, d, .cons h r, e => by
    simp at e
    obtain ⟨v, h1, h2⟩ := Reps.get (i := i) (d := d) r e
    exact ⟨v, by simpa using h1, h2⟩
theorem Reps.getV : ∀ {ds : List D} {vs : List V} {i : Nat} {v : V}, Reps K H ds vs → vs[i]? = some v → ∃ d, ds[i]? = some d ∧ Rep K H d v
  | _, _, _, _, .nil, h => by simp at h
  | _, _, 0, _, .cons h r, e => by
    simp at e
    subst e
    exact ⟨_, rfl, h⟩
  | _, _, i + 1, d, .cons h r, e => by
    simp at e
    obtain ⟨v, h1, h2⟩ := Reps.getV (i := i) (v := d) r e
    exact ⟨v, by simpa using h1, h2⟩
theorem Reps.append : ∀ {ds es : List D} {vs us : List V}, Reps K H ds vs → Reps K H es us → Reps K H (ds ++ es) (vs ++ us)
  | _, _, _, _, .nil, s => s
  | _, _, _, _, .cons h r, s => .cons h (Reps.append r s)
theorem Reps.take : ∀ {ds : List D} {vs : List V} (n : Nat), Reps K H ds vs → Reps K H (ds.take n) (vs.take n)
  | _, _, 0, _ => .nil
  | _, _, _ + 1, .nil => .nil
  | _, _, n + 1, .cons h r => .cons h (Reps.take n r)
theorem Reps.drop : ∀ {ds : List D} {vs : List V} (n : Nat), Reps K H ds vs → Reps K H (ds.drop n) (vs.drop n)
  | _, _, 0, r => r
  | _, _, _ + 1, .nil => .nil
  | _, _, n + 1, .cons _ r => Reps.drop n r
theorem Reps.set {d : D} {v : V} (h : Rep K H d v) : ∀ {ds : List D} {vs : List V} (n : Nat), Reps K H ds vs → Reps K H (ds.set n d) (vs.set n v)
  | _, _, _, .nil => .nil
  | _, _, 0, .cons _ r => .cons h r
  | _, _, n + 1, .cons q r => .cons q (Reps.set h n r)
theorem Reps.eraseIdx : ∀ {ds : List D} {vs : List V} (n : Nat), Reps K H ds vs → Reps K H (ds.eraseIdx n) (vs.eraseIdx n)
  | _, _, _, .nil => .nil
  | _, _, 0, .cons _ r => r
  | _, _, n + 1, .cons q r => .cons q (Reps.eraseIdx n r)
theorem Reps.dropLast {ds : List D} {vs : List V} (h : Reps K H ds vs) : Reps K H ds.dropLast vs.dropLast := by
  rw [List.dropLast_eq_take, List.dropLast_eq_take, h.length]
  exact h.take _
theorem Reps.reverse : ∀ {ds : List D} {vs : List V}, Reps K H ds vs → Reps K H ds.reverse vs.reverse
  | _, _, .nil => .nil
  | _, _, .cons h r => by
    rw [List.reverse_cons, List.reverse_cons]
    exact Reps.append (Reps.reverse r) (.cons h .nil)
theorem Reps.ints : ∀ {ns : List Int} {vs : List V}, Reps K H (ns.map D.int) vs → vs = ns.map V.int
  | [], _, .nil => rfl
  | n :: ns, _, .cons h r => by
    cases h
    rw [Reps.ints r]
    rfl
theorem Reps.ofInts : ∀ (ns : List Int), Reps K H (ns.map D.int) (ns.map V.int)
  | [] => .nil
  | n :: ns => .cons (.int n) (Reps.ofInts ns)
theorem Reps.bls : ∀ {bs : List Bool} {vs : List V}, Reps K H (bs.map D.bl) vs → vs = bs.map V.bl
  | [], _, .nil => rfl
  | n :: ns, _, .cons h r => by
    cases h
    rw [Reps.bls r]
    rfl
theorem Reps.strs : ∀ {bs : List (List Nat)} {vs : List V}, Reps K H (bs.map D.str) vs → vs = bs.map fun z => V.str ⟨z.toArray⟩
  | [], _, .nil => rfl
  | n :: ns, _, .cons h r => by
    cases h
    rw [Reps.strs r]
    rfl
theorem RepF.lookup : ∀ {fs : List (Str × D)} {gs : List (Str × V)} {f : Str} {d : D}, RepF K H fs gs → fs.lookup f = some d → ∃ v, gs.lookup f = some v ∧ Rep K H d v
  | _, _, _, _, .nil, h => by simp at h
  | _, _, f, d, .cons (f := g) h r, e => by
    rw [List.lookup_cons] at e ⊢
    cases q : f == g with
    | true =>
      rw [q] at e
      simp at e
      subst e
      exact ⟨_, rfl, h⟩
    | false =>
      rw [q] at e
      exact RepF.lookup r e
theorem RepF.lookup_none : ∀ {fs : List (Str × D)} {gs : List (Str × V)} {f : Str}, RepF K H fs gs → fs.lookup f = none → gs.lookup f = none
  | _, _, _, .nil, h => rfl
  | _, _, f, .cons (f := g) h r, e => by
    rw [List.lookup_cons] at e ⊢
    cases q : f == g with
    | true =>
      rw [q] at e
      cases e
    | false =>
      rw [q] at e
      exact RepF.lookup_none r e
end

/-! ### what may still change -/
inductive MO where
  | lst (ds : List D)
  | inv (P : List D → Prop)
  | ins (nm : Str) (fs : List (Str × D))
  | dct (t : Bool) (kvs : List (D × D))
  | tab (q : Str)
abbrev Mem := Addr → Option MO
def mset (m : Mem) (a : Addr) (o : MO) : Mem := fun b => if b = a then some o else m b
def mdel (m : Mem) (a : Addr) : Mem := fun b => if b = a then none else m b
theorem mset_same {m : Mem} {a : Addr} {o : MO} : mset m a o a = some o := if_pos rfl
theorem mset_ne {m : Mem} {a b : Addr} {o : MO} (h : b ≠ a) : mset m a o b = m b := if_neg h
theorem mset_mset {m : Mem} {a : Addr} {o u : MO} : mset (mset m a o) a u = mset m a u := by
  funext b; unfold mset; split <;> rfl
theorem mdel_mset {m : Mem} {a : Addr} {o : MO} (h : m a = none) : mdel (mset m a o) a = m := by
  funext b; unfold mdel mset; split
  · rename_i e; rw [e, h]
  · rfl
theorem mset_self {m : Mem} {a : Addr} {o : MO} (h : m a = some o) : mset m a o = m := by
  funext b; unfold mset; split
  · rename_i e; rw [e, h]
  · rfl
theorem mset_comm {m : Mem} {a b : Addr} {o u : MO} (h : a ≠ b) : mset (mset m a o) b u = mset (mset m b u) a o := by
  funext c; unfold mset; split
  · rename_i e
    rw [if_neg (fun z => h (z.symm.trans e))]
  · rfl
theorem mne {m : Mem} {a b : Addr} {o : MO} (h : m a = some o) (h' : m b = none) : a ≠ b := by
  intro e; subst e; rw [h] at h'; cases h'

inductive RepO (K : PySem.W.Frag) (H : Hp) (p : Addr) : MO → HO → Prop
  | lst {ds : List D} {vs : List V} : Reps K H ds vs → RepO K H p (.lst ds) (.lst vs)
  | inv {P : List D → Prop} {ds : List D} {vs : List V} : Reps K H ds vs → P ds → RepO K H p (.inv P) (.lst vs)
  | ins {C dx : Addr} {nm : Str} {fs : List (Str × D)} {gs : List (Str × V)} : ClsI K nm C → RepF K H fs gs → RepO K H p (.ins nm fs) (.ins C dx gs)
  | dK {kvs : List (D × D)} {us : List (Key × V)} : RepK K H kvs us → RepO K H p (.dct false kvs) (.dK us)
  | dT {ep : Nat} {kvs : List (D × D)} {xs : List (NestedKey × Addr × V)} : (p == sysModules) = false → xs.length ≤ sizeLine → (xs.map (·.1)).Nodup → RepT K H kvs xs → RepO K H p (.dct true kvs) (dNo p ep xs)
  | tab {q : Str} {ps : Array Value} : TriplesOk ps.toList → (∀ (pos : Pos) (cv : Value), codeAmong pos ps.toList = some cv → ∃ c, cv = .ref c ∧ H c = some (LamX.CodeO c q)) → RepO K H p (.tab q) (.tbl ps)
theorem RepO.mono {K : PySem.W.Frag} {H H' : Hp} (e : Same H H') {p : Addr} {m : MO} {o : HO} (h : RepO K H p m o) : RepO K H' p m o := by
  cases h with
  | lst r => exact .lst (r.mono e)
  | inv r p => exact .inv (r.mono e) p
  | ins c r => exact .ins c (r.mono e)
  | dK r => exact .dK (r.mono e)
  | dT z l n r => exact .dT z l n (r.mono e)
  | tab t h =>
    refine .tab t fun pos cv hc => ?_
    obtain ⟨c, e1, e2⟩ := h pos cv hc
    exact ⟨c, e1, e _ _ e2⟩

structure Sep (K : PySem.W.Frag) (G : Hp) (m : Mem) (H : Hp) : Prop where
  sub : Same G H
  out : ∀ a o, m a = some o → G a = none
  own : ∀ a o, m a = some o → ∃ u, H a = some u ∧ RepO K G a o u
theorem same_upd {H : Hp} {p : Addr} {o : HO} (h : H p = none) : Same H (upd H p o) := fun b x e => by
  rw [upd_ne (ne_of_none e h)]
  exact e
section
variable {K : PySem.W.Frag} {G H : Hp} {m : Mem} {p a : Addr}
theorem Sep.free (s : Sep K G m H) (h : H p = none) : G p = none := s.sub.free h
theorem Sep.freeM (s : Sep K G m H) (h : H p = none) : m p = none := by
  cases q : m p with
  | none => rfl
  | some o =>
    obtain ⟨u, e, _⟩ := s.own p o q
    rw [h] at e
    cases e
/-- a new object that won't change -/
theorem Sep.laid (s : Sep K G m H) (h : H p = none) (o : HO) : Sep K (upd G p o) m (upd H p o) ∧ Same G (upd G p o) := by
  have gp := s.free h
  have sg : Same G (upd G p o) := same_upd gp
  refine ⟨⟨fun b x e => ?_, fun b x e => ?_, fun b x e => ?_⟩, sg⟩
  · by_cases hb : b = p
    · subst hb
      rw [upd_same] at e ⊢
      exact e
    · rw [upd_ne hb] at e ⊢
      exact s.sub b x e
  · have nb : b ≠ p := fun z => by
      subst z
      rw [s.freeM h] at e
      cases e
    rw [upd_ne nb]
    exact s.out b x e
  · have nb : b ≠ p := fun z => by
      subst z
      rw [s.freeM h] at e
      cases e
    obtain ⟨u, e1, e2⟩ := s.own b x e
    exact ⟨u, by rw [upd_ne nb]; exact e1, e2.mono sg⟩
/-- a new object that may change -/
theorem Sep.alloc (s : Sep K G m H) (h : H p = none) {o : HO} {x : MO} (r : RepO K G p x o) : Sep K G (mset m p x) (upd H p o) := by
  refine ⟨fun b y e => ?_, fun b y e => ?_, fun b y e => ?_⟩
  · have nb : b ≠ p := fun z => by
      subst z
      rw [s.free h] at e
      cases e
    rw [upd_ne nb]
    exact s.sub b y e
  · by_cases hb : b = p
    · subst hb
      exact s.free h
    · rw [mset_ne hb] at e
      exact s.out b y e
  · by_cases hb : b = p
    · subst hb
      rw [mset_same] at e
      cases e
      exact ⟨o, upd_same, r⟩
    · rw [mset_ne hb] at e
      obtain ⟨u, e1, e2⟩ := s.own b y e
      exact ⟨u, by rw [upd_ne hb]; exact e1, e2⟩
theorem Sep.write (s : Sep K G m H) {x y : MO} (h : m a = some x) {o : HO} (r : RepO K G a y o) : Sep K G (mset m a y) (upd H a o) := by
  refine ⟨fun b z e => ?_, fun b z e => ?_, fun b z e => ?_⟩
  · have nb : b ≠ a := fun q => by
      subst q
      rw [s.out b x h] at e
      cases e
    rw [upd_ne nb]
    exact s.sub b z e
  · by_cases hb : b = a
    · subst hb
      exact s.out b x h
    · rw [mset_ne hb] at e
      exact s.out b z e
  · by_cases hb : b = a
    · subst hb
      rw [mset_same] at e
      cases e
      exact ⟨o, upd_same, r⟩
    · rw [mset_ne hb] at e
      obtain ⟨u, e1, e2⟩ := s.own b z e
      exact ⟨u, by rw [upd_ne hb]; exact e1, e2⟩
/-- an object that won't change any more -/
theorem Sep.freeze (s : Sep K G m H) {x : MO} (h : m a = some x) {o : HO} (e : H a = some o) : Sep K (upd G a o) (mdel m a) H ∧ Same G (upd G a o) := by
  have gp := s.out a x h
  have sg : Same G (upd G a o) := same_upd gp
  have md : ∀ b z, mdel m a b = some z → b ≠ a ∧ m b = some z := fun b z q => by
    unfold mdel at q
    split at q
    · cases q
    · rename_i n
      exact ⟨n, q⟩
  refine ⟨⟨fun b z q => ?_, fun b z q => ?_, fun b z q => ?_⟩, sg⟩
  · by_cases hb : b = a
    · subst hb
      rw [upd_same] at q
      rw [e]
      exact q
    · rw [upd_ne hb] at q
      exact s.sub b z q
  · obtain ⟨n, q'⟩ := md b z q
    rw [upd_ne n]
    exact s.out b z q'
  · obtain ⟨n, q'⟩ := md b z q
    obtain ⟨u, e1, e2⟩ := s.own b z q'
    exact ⟨u, e1, e2.mono sg⟩
theorem Sep.drop (s : Sep K G m H) {m' : Mem} (h : ∀ b z, m' b = some z → m b = some z) : Sep K G m' H :=
  ⟨s.sub, fun b z e => s.out b z (h b z e), fun b z e => s.own b z (h b z e)⟩
theorem Sep.lst (s : Sep K G m H) {ds : List D} (h : m a = some (.lst ds)) : ∃ vs, H a = some (.lst vs) ∧ Reps K G ds vs := by
  obtain ⟨u, e, r⟩ := s.own a _ h
  cases r with
  | lst r => exact ⟨_, e, r⟩
end

/-! ### the names -/
abbrev Nv := List (Option D)
inductive RepN (K : PySem.W.Frag) (H : Hp) : Nv → L2.St → Prop
  | nil : RepN K H [] []
  | yes {d : D} {v : V} {r : Nv} {t : L2.St} : Rep K H d v → RepN K H r t → RepN K H (some d :: r) (some v :: t)
  | no {v : Option V} {r : Nv} {t : L2.St} : RepN K H r t → RepN K H (none :: r) (v :: t)
section
variable {K : PySem.W.Frag} {H H' : Hp}
theorem RepN.mono (e : Same H H') : ∀ {r : Nv} {t : L2.St}, RepN K H r t → RepN K H' r t
  | _, _, .nil => .nil
  | _, _, .yes h r => .yes (h.mono e) (RepN.mono e r)
  | _, _, .no r => .no (RepN.mono e r)
theorem RepN.get : ∀ {r : Nv} {t : L2.St} {i : Nat} {d : D}, RepN K H r t → r[i]? = some (some d) → ∃ v, t[i]? = some (some v) ∧ Rep K H d v
  | _, _, _, _, .nil, h => by simp at h
  | _, _, 0, _, .yes h r, e => by
    simp at e
    subst e
    exact ⟨_, rfl, h⟩
  | _, _, 0, _, .no r, e => by simp at e
  | _, _, i + 1, d, .yes h r, e => by
    simp at e
    obtain ⟨v, h1, h2⟩ := RepN.get (i := i) (d := d) r e
    exact ⟨v, by simpa using h1, h2⟩
  | _, _, i + 1, d, .no r, e => by
    simp at e
    obtain ⟨v, h1, h2⟩ := RepN.get (i := i) (d := d) r e
    exact ⟨v, by simpa using h1, h2⟩
theorem RepN.set {d : D} {v : V} (h : Rep K H d v) : ∀ {r : Nv} {t : L2.St} (i : Nat), RepN K H r t → RepN K H (r.set i (some d)) (t.set i (some v))
  | _, _, _, .nil => .nil
  | _, _, 0, .yes _ r => .yes h r
  | _, _, 0, .no r => .yes h r
  | _, _, i + 1, .yes q r => .yes q (RepN.set h i r)
  | _, _, i + 1, .no r => .no (RepN.set h i r)
theorem RepN.unset {v : Option V} : ∀ {r : Nv} {t : L2.St} (i : Nat), RepN K H r t → RepN K H (r.set i none) (t.set i v)
  | _, _, _, .nil => .nil
  | _, _, 0, .yes _ r => .no r
  | _, _, 0, .no r => .no r
  | _, _, i + 1, .yes q r => .yes q (RepN.unset i r)
  | _, _, i + 1, .no r => .no (RepN.unset i r)
theorem RepN.forget : ∀ {r : Nv} {t : L2.St} (i : Nat), RepN K H r t → RepN K H (r.set i none) t
  | _, _, _, .nil => .nil
  | _, _, 0, .yes _ r => .no r
  | _, _, 0, .no r => .no r
  | _, _, i + 1, .yes q r => .yes q (RepN.forget i r)
  | _, _, i + 1, .no r => .no (RepN.forget i r)
theorem RepN.nones : ∀ (n : Nat), RepN K H (List.replicate n none) (List.replicate n none)
  | 0 => .nil
  | n + 1 => .no (RepN.nones n)
theorem RepN.start : ∀ {ds : List D} {vs : List V} (n : Nat), Reps K H ds vs → RepN K H (ds.map some ++ List.replicate n none) (vs.map some ++ List.replicate n none)
  | _, _, n, .nil => RepN.nones n
  | _, _, n, .cons h r => .yes h (RepN.start n r)
end

/-! ### readings -/
abbrev QD := D → Mem → Prop
/-- what is wanted of an exception: its class's name, its attributes, the names and objects behind it -/
abbrev XD := Str → List (Str × D) → Nv → Mem → Prop
abbrev XF := Str → List (Str × D) → Mem → Prop
abbrev RE := XD → Nv → Mem → QD → Prop
abbrev RT := XD → Nv → Mem → (Bool → Mem → Prop) → Prop
abbrev RA := XD → Nv → Mem → (List D → Mem → Prop) → Prop
structure EN where
  nx : Nv → Mem → Prop
  rt : QD
  bk : Nv → Mem → Prop := fun _ _ => False
  ct : Nv → Mem → Prop := fun _ _ => False
abbrev RS := XD → EN → Nv → Mem → Prop

/-- an exception's attributes as its dict holds them -/
inductive RepX (K : PySem.W.Frag) (H : Hp) : Str → Value → List (Str × D) → Option Addr → Prop
  | no {nm : Str} {c : Value} : ClsK K nm c → RepX K H nm c [] none
  | yes {nm : Str} {c : Value} {d : Addr} {fs : List (Str × D)} {gs : List (Str × V)} : ClsK K nm c → H d = some (.xd gs) → RepF K H fs gs → RepX K H nm c fs (some d)
theorem RepX.mono {K : PySem.W.Frag} {H H' : Hp} (e : Same H H') {nm : Str} {c : Value} {fs : List (Str × D)} {o : Option Addr} (h : RepX K H nm c fs o) : RepX K H' nm c fs o := by
  cases h with
  | no z => exact .no z
  | yes z h r => exact .yes z (e _ _ h) (r.mono e)

/-- the D wish of an exception serves the V wish -/
def LinkX (K : PySem.W.Frag) (W : WX) (G : Hp) (xd : XD) : Prop := ∀ (nm : Str) (c : Value) (fs : List (Str × D)) (o : Option Addr) (r : Nv) (m : Mem) (t : L2.St) (G' H' : Hp),
  Same G G' → Sep K G' m H' → RepN K G' r t → RepX K G' nm c fs o → xd nm fs r m → W c o t H'
theorem LinkX.mono {K : PySem.W.Frag} {W : WX} {G G1 : Hp} {xd : XD} (h : LinkX K W G xd) (e : Same G G1) : LinkX K W G1 xd :=
  fun nm c fs o r m t G' H' e1 => h nm c fs o r m t G' H' (e.trans e1)

def lowE (K : PySem.W.Frag) (W : WX) (r : RE) : TE := fun t H Q => ∃ (n : Nv) (m : Mem) (G : Hp) (xd : XD) (q : QD), RepN K G n t ∧ Sep K G m H ∧ LinkX K W G xd ∧ r xd n m q ∧
  ∀ d m' v G' H', Same G G' → Sep K G' m' H' → Rep K G' d v → q d m' → Q v H'
def lowT (K : PySem.W.Frag) (W : WX) (r : RT) : TT := fun t H Q => ∃ (n : Nv) (m : Mem) (G : Hp) (xd : XD) (q : Bool → Mem → Prop), RepN K G n t ∧ Sep K G m H ∧ LinkX K W G xd ∧ r xd n m q ∧
  ∀ b m' G' H', Same G G' → Sep K G' m' H' → q b m' → Q b H'
def lowA (K : PySem.W.Frag) (W : WX) (r : RA) : TA := fun t H Q => ∃ (n : Nv) (m : Mem) (G : Hp) (xd : XD) (q : List D → Mem → Prop), RepN K G n t ∧ Sep K G m H ∧ LinkX K W G xd ∧ r xd n m q ∧
  ∀ ds m' vs G' H', Same G G' → Sep K G' m' H' → Reps K G' ds vs → q ds m' → Q vs H'
structure LinkS (K : PySem.W.Frag) (G : Hp) (e : EN) (D : Ends) : Prop where
  nx : ∀ n m t G' H', Same G G' → Sep K G' m H' → RepN K G' n t → e.nx n m → D.nx t H'
  rt : ∀ d m v G' H', Same G G' → Sep K G' m H' → Rep K G' d v → e.rt d m → D.rt v H'
  bk : ∀ n m t G' H', Same G G' → Sep K G' m H' → RepN K G' n t → e.bk n m → D.bk t H'
  ct : ∀ n m t G' H', Same G G' → Sep K G' m H' → RepN K G' n t → e.ct n m → D.ct t H'
theorem LinkS.mono {K : PySem.W.Frag} {G G1 : Hp} {e : EN} {D : Ends} (h : LinkS K G e D) (s : Same G G1) : LinkS K G1 e D :=
  ⟨fun n m t G' H' a => h.nx n m t G' H' (s.trans a), fun d m v G' H' a => h.rt d m v G' H' (s.trans a), fun n m t G' H' a => h.bk n m t G' H' (s.trans a), fun n m t G' H' a => h.ct n m t G' H' (s.trans a)⟩
def lowS (K : PySem.W.Frag) (W : WX) (r : RS) : TS := fun D t H => ∃ (n : Nv) (m : Mem) (G : Hp) (xd : XD) (e : EN), RepN K G n t ∧ Sep K G m H ∧ LinkX K W G xd ∧ r xd e n m ∧ LinkS K G e D

abbrev DE (X : Cx) (W : WX) (e : Expr) (r : RE) : Prop := PE X e (lowE X.K W r)
abbrev DT (X : Cx) (W : WX) (e : Expr) (r : RT) : Prop := PT X e (lowT X.K W r)
abbrev DW (X : Cx) (W : WX) (e : Expr) (r : RT) : Prop := PW X e (lowT X.K W r)
abbrev DA (X : Cx) (W : WX) (es : List Expr) (r : RA) : Prop := PA X es (lowA X.K W r)
abbrev DS (X : Cx) (W : WX) (s : Stmt) (r : RS) : Prop := PS X s (lowS X.K W r)
abbrev DSs (X : Cx) (W : WX) (s : List Stmt) (r : RS) : Prop := PSs X s (lowS X.K W r)

theorem PE.imp {X : Cx} {e : Expr} {t u : TE} (h : PE X e t) (i : ∀ s H Q, u s H Q → t s H Q) : PE X e u := ⟨fun pins s σ H Q I q => h.run pins s σ H Q I (i σ H Q q)⟩
theorem PT.imp {X : Cx} {e : Expr} {t u : TT} (h : PT X e t) (i : ∀ s H Q, u s H Q → t s H Q) : PT X e u := ⟨fun pins s σ H Q I q => h.run pins s σ H Q I (i σ H Q q)⟩
theorem PW.imp {X : Cx} {e : Expr} {t u : TT} (h : PW X e t) (i : ∀ s H Q, u s H Q → t s H Q) : PW X e u := ⟨fun w pins s σ H Q I q => h.run w pins s σ H Q I (i σ H Q q)⟩
theorem PA.imp {X : Cx} {es : List Expr} {t u : TA} (h : PA X es t) (i : ∀ s H Q, u s H Q → t s H Q) : PA X es u := ⟨fun p pins s σ H Q I q => h.run p pins s σ H Q I (i σ H Q q)⟩
theorem PS.imp {X : Cx} {e : Stmt} {t u : TS} (h : PS X e t) (i : ∀ D s H, u D s H → t D s H) : PS X e u := ⟨fun pins s σ H D I q => h.run pins s σ H D I (i D σ H q)⟩
theorem PSs.imp {X : Cx} {e : List Stmt} {t u : TS} (h : PSs X e t) (i : ∀ D s H, u D s H → t D s H) : PSs X e u := ⟨fun pins s σ H D I q => h.run pins s σ H D I (i D σ H q)⟩
end DL

/-! DL2: expressions -/
namespace DL
open PySem PySem.Spec PyProof.Rows L2

/-! ### data as the library's -/
mutual
def toP : D → PyData
  | .non => .none
  | .bl b => .bool b
  | .int i => .int i
  | .str cs => .str ⟨cs.toArray⟩
  | .tup ds => .tuple (toPs ds)
  | .lst ds => .list (toPs ds)
  | .scr ns => .list (ns.map .int)
  | .ref _ => .dict []
  | .ty _ => .dict []
  | .ins _ _ => .dict []
  | .exc _ _ _ _ _ => .dict []
  | .dct _ _ => .dict []
  | .fn _ _ _ _ _ _ => .dict []
def toPs : List D → List PyData
  | [] => []
  | d :: ds => toP d :: toPs ds
end
mutual
/-- plain data, at most k deep -/
def fl : Nat → D → Bool
  | _, .non => true
  | _, .bl _ => true
  | _, .int _ => true
  | _, .str cs => cs.all fun c => decide (c < 1114112)
  | k, .tup ds => match k with
    | 0 => false
    | k + 1 => fls k ds
  | k, .lst ds => match k with
    | 0 => false
    | k + 1 => fls k ds
  | _, .scr _ => false
  | _, .ref _ => false
  | _, .ty _ => false
  | _, .ins _ _ => false
  | _, .exc _ _ _ _ _ => false
  | _, .dct _ _ => false
  | _, .fn _ _ _ _ _ _ => false
def fls : Nat → List D → Bool
  | _, [] => true
  | k, d :: ds => fl k d && fls k ds
end
theorem fls_iff : ∀ {k : Nat} {ds : List D}, fls k ds = true ↔ ∀ d ∈ ds, fl k d = true
  | k, [] => by simp [fls]
  | k, d :: ds => by
    rw [fls, Bool.and_eq_true, fls_iff]
    simp
theorem toPs_map : ∀ ds : List D, toPs ds = ds.map toP
  | [] => rfl
  | d :: ds => by rw [toPs, toPs_map ds, List.map_cons]
def eqD (x y : D) : Bool := PyData.eqv (toP x) (toP y)
mutual
theorem fl_canLay : ∀ (k : Nat) (d : D), fl k d = true → (toP d).canLay0 = true ∧ (toP d).depth ≤ k
  | k, .non, _ => ⟨rfl, Nat.zero_le _⟩
  | k, .bl _, _ => ⟨rfl, Nat.zero_le _⟩
  | k, .int _, _ => ⟨rfl, Nat.zero_le _⟩
  | k, .str cs, h => by
    refine ⟨?_, Nat.zero_le _⟩
    rw [toP, PyData.canLay0]
    unfold PyData.strOk
    rw [fl] at h
    simpa using h
  | 0, .tup ds, h => by simp [fl] at h
  | k + 1, .tup ds, h => by
    obtain ⟨h1, h2⟩ := fls_canLay k ds (by simpa [fl] using h)
    exact ⟨by rw [toP, PyData.canLay0]; exact h1, by rw [toP, PyData.depth]; omega⟩
  | 0, .lst ds, h => by simp [fl] at h
  | k + 1, .lst ds, h => by
    obtain ⟨h1, h2⟩ := fls_canLay k ds (by simpa [fl] using h)
    exact ⟨by rw [toP, PyData.canLay0]; exact h1, by rw [toP, PyData.depth]; omega⟩
  | k, .scr _, h => by simp [fl] at h
  | k, .ref _, h => by simp [fl] at h
  | k, .ty _, h => by simp [fl] at h
  | k, .ins _ _, h => by simp [fl] at h
  | k, .exc _ _ _ _ _, h => by simp [fl] at h
  | k, .dct _ _, h => by simp [fl] at h
  | k, .fn _ _ _ _ _ _, h => by simp [fl] at h
theorem fls_canLay : ∀ (k : Nat) (ds : List D), fls k ds = true → PyData.canLayAll0 (toPs ds) = true ∧ PyData.depthAll (toPs ds) ≤ k
  | k, [], _ => ⟨rfl, Nat.zero_le _⟩
  | k, d :: ds, h => by
    rw [fls, Bool.and_eq_true] at h
    obtain ⟨h1, h2⟩ := fl_canLay k d h.1
    obtain ⟨h3, h4⟩ := fls_canLay k ds h.2
    refine ⟨?_, ?_⟩
    · rw [toPs, PyData.canLayAll0, h1, h3]
      rfl
    · rw [toPs, PyData.depthAll]
      omega
end
theorem fl_shaped {k : Nat} {d : D} (h : fl k d = true) (hk : k ≤ 64) : SeqAt.shaped (toP d) = true := by
  obtain ⟨h1, h2⟩ := fl_canLay k d h
  unfold SeqAt.shaped
  rw [h1, decide_eq_true (by omega)]
  rfl
theorem eqD_refl {k : Nat} {d : D} (h : fl k d = true) : eqD d d = true := SeqAt.eqv_refl _ (fl_canLay k d h).1
section
variable {K : PySem.W.Frag} {H : Hp}
mutual
theorem Rep.dp : ∀ {d : D} {v : V}, Rep K H d v → ∀ k, fl k d = true → Dp K H v (toP d)
  | _, _, .non, _, _ => .non
  | _, _, .bl b, _, _ => .bl b
  | _, _, .int i, _, _ => .int i
  | _, _, .str c, _, _ => .str _
  | _, _, .ref a, k, h => by simp [fl] at h
  | _, _, .ty n, k, h => by simp [fl] at h
  | _, _, .tup (ds := ds) e r, 0, h => by simp [fl] at h
  | _, _, .tup (ds := ds) e r, k + 1, h => by
    rw [toP]
    exact .tup (SqT.of e) (Reps.dp r k (by simpa [fl] using h))
  | _, _, .lst (ds := ds) e r, 0, h => by simp [fl] at h
  | _, _, .lst (ds := ds) e r, k + 1, h => by
    rw [toP]
    exact .lst (SqL.of e) (Reps.dp r k (by simpa [fl] using h))
  | _, _, .scr e, k, h => by simp [fl] at h
  | _, _, .ins c e r, k, h => by simp [fl] at h
  | _, _, .exc c e r, k, h => by simp [fl] at h
  | _, _, .exc0 c, k, h => by simp [fl] at h
  | _, _, .exv _ _ _ _, k, h => by simp [fl] at h
  | _, _, .exv0 _ _, k, h => by simp [fl] at h
  | _, _, .dK e r, k, h => by simp [fl] at h
  | _, _, .dT e z l n r, k, h => by simp [fl] at h
  | _, _, .fn a b r0, k, h => by simp [fl] at h
theorem Reps.dp : ∀ {ds : List D} {vs : List V}, Reps K H ds vs → ∀ k, fls k ds = true → DpAll K H vs (toPs ds)
  | _, _, .nil, _, _ => .nil
  | _, _, .cons h r, k, e => by
    rw [fls, Bool.and_eq_true] at e
    rw [toPs]
    exact .cons (Rep.dp h k e.1) (Reps.dp r k e.2)
end
end

/-! ### names, constants -/
def rVar (i : Nat) : RE := fun _ n m q => ∃ d, n[i]? = some (some d) ∧ q d m
def rC (d : D) : RE := fun _ _ m q => q d m
section
variable {X : Cx} {W : WX}
theorem de_of {e : Expr} {i : Nat} (h : PE X e (tVar i)) : DE X W e (rVar i) := PE.imp h fun t H Q ⟨n, m, G, xd, q, hn, hs, hl, hr, hq⟩ => by
  obtain ⟨d, e1, hr⟩ := hr
  obtain ⟨v, e2, r⟩ := hn.get e1
  exact ⟨v, e2, hq d m v G H (Same.refl G) hs r hr⟩
theorem dv (i : Nat) {x : Str} {pos : Pos} (hN : X.N[i]? = some x := by rfl) (hv : Vis X.env.scope x := by first | exact Or.inl rfl | exact Or.inr (Or.inl rfl) | exact Or.inr (Or.inr rfl)) (hd : (x == ("__debug__" : Str)) = false := by decide)
    (hcd : (x == ("__classdict__" : Str)) = false := by decide) : DE X W (.Name x pos) (rVar i) := de_of (pe_var hN hv hd hcd)
theorem de_c {e : Expr} {v : V} {d : D} (h : PE X e (tC v)) (r : ∀ G, Rep X.K G d v) : DE X W e (rC d) := PE.imp h fun t H Q ⟨n, m, G, xd, q, hn, hs, hl, hr, hq⟩ =>
  hq d m v G H (Same.refl G) hs (r G) hr
theorem de_int {i j pos} : DE X W (.Constant (.int i) j pos) (rC (.int i)) := de_c pe_int fun _ => .int i
theorem de_bl {i j pos} : DE X W (.Constant (.bool i) j pos) (rC (.bl i)) := de_c pe_bl fun _ => .bl i
theorem de_non {j pos} : DE X W (.Constant .none j pos) (rC .non) := de_c pe_non fun _ => .non
theorem str_eta (x : Str) : (⟨x.cps.toList.toArray⟩ : Str) = x := by cases x; simp
theorem de_str {x j pos} (cs : List Nat) (h : x.cps.toList = cs := by rfl) : DE X W (.Constant (.str x) j pos) (rC (.str cs)) := de_c pe_str fun _ => by
  have e : x = ⟨cs.toArray⟩ := by rw [← h, str_eta]
  rw [e]
  exact .str cs
/-- a constant of the module -/
theorem de_glob {x : Str} {v : V} {u : Value} {pos : Pos} {d : D} (hg : Gl X x) (hm : X.mg x = some u) (r : RelV v u) (hr : ∀ G, Rep X.K G d v) (hd : (x == ("__debug__" : Str)) = false := by decide) : DE X W (.Name x pos) (rC d) := de_c (pe_glob hg hm r hd) hr
theorem de_bltn {x : Str} {v : V} {u : Value} {pos : Pos} {d : D} (hg : Gl X x) (hm : X.mg x = none) (hv : bootBuiltins x = some u) (r : RelV v u) (hr : ∀ G, Rep X.K G d v) (hn : x ≠ "__name__" := by decide) (hd : (x == ("__debug__" : Str)) = false := by decide) : DE X W (.Name x pos) (rC d) := de_c (pe_bltn hg hm hv r hn hd) hr

/-! ### two-place operations -/
abbrev G2 := D → D → Mem → QD → Prop
def lowQ (K : PySem.W.Frag) (G : Hp) (q : QD) (Q : VK) : Prop := ∀ d m' v G' H', Same G G' → Sep K G' m' H' → Rep K G' d v → q d m' → Q v H'
def low2 (K : PySem.W.Frag) (g : G2) : R2 := fun x y H Q => ∃ dx dy m G q, Rep K G dx x ∧ Rep K G dy y ∧ Sep K G m H ∧ g dx dy m q ∧ lowQ K G q Q
theorem lowQ.mono {K : PySem.W.Frag} {G G1 : Hp} {q : QD} {Q : VK} (h : lowQ K G q Q) (e : Same G G1) : lowQ K G1 q Q := fun d m' v G' H' a => h d m' v G' H' (e.trans a)
theorem lowQ.here {K : PySem.W.Frag} {G H : Hp} {m : Mem} {q : QD} {Q : VK} {d : D} {v : V} (h : lowQ K G q Q) (s : Sep K G m H) (r : Rep K G d v) (k : q d m) : Q v H := h d m v G H (Same.refl G) s r k
def rOp (g : G2) (ra rb : RE) : RE := fun xd n m q => ra xd n m fun x m1 => rb xd n m1 fun y m2 => g x y m2 q
variable {a b c : Expr} {ra rb rc : RE} {pos : Pos}
theorem lowOp {g : G2} : ∀ t H Q, lowE X.K W (rOp g ra rb) t H Q → tOp (low2 X.K g) (lowE X.K W ra) (lowE X.K W rb) t H Q := fun t H Q ⟨n, m, G, xd, q, hn, hs, hl, hr, hq⟩ =>
  ⟨n, m, G, xd, _, hn, hs, hl, hr, fun dx m1 x G1 H1 e1 s1 r1 q1 => ⟨n, m1, G1, xd, _, hn.mono e1, s1, hl.mono e1, q1, fun dy m2 y G2 H2 e2 s2 r2 q2 =>
    ⟨dx, dy, m2, G2, q, r1.mono e2, r2, s2, q2, fun d m' v G' H' e3 s3 r3 q3 => hq d m' v G' H' (e1.trans (e2.trans e3)) s3 r3 q3⟩⟩⟩
theorem de_op {op : Operator} {g : G2} (ho : OpR X (binaryOp op) (low2 X.K g)) (ha : DE X W a ra) (hb : DE X W b rb) : DE X W (.BinOp a op b pos) (rOp g ra rb) := PE.imp (pe_op ho ha hb) lowOp
theorem de_cmp {op : CmpOp} {g : G2} (ho : OpR X (compareOp op) (low2 X.K g)) (ha : DE X W a ra) (hb : DE X W b rb) (hm : behindInMarks op b = false) : DE X W (.Compare a [op] [b] pos) (rOp g ra rb) := PE.imp (pe_cmpR ho ha hb hm) lowOp
/-- a value as a test: it must be a bool -/
def rTst (r : RE) : RT := fun xd n m q => r xd n m fun d m1 => ∃ b, d = .bl b ∧ q b m1
theorem lowTst {r : RE} : ∀ t H Q, lowT X.K W (rTst r) t H Q → tTest (lowE X.K W r) t H Q := fun t H Q ⟨n, m, G, xd, q, hn, hs, hl, hr, hq⟩ =>
  ⟨n, m, G, xd, _, hn, hs, hl, hr, fun d m1 v G1 H1 e1 s1 r1 ⟨b, e, q1⟩ => by
    subst e
    cases r1
    exact ⟨b, rfl, hq b m1 G1 H1 e1 s1 q1⟩⟩
theorem dt_val {e : Expr} {r : RE} (h : DE X W e r) (he : ∀ whole, isTrue e X.env whole = (do let v ← whole; standAt e.pos; holding [v] (truthy v)) := by intro _; rfl) : DT X W e (rTst r) := PT.imp (pt_val h he) lowTst
theorem dt_cmp {op : CmpOp} {g : G2} (ho : OpR X (compareOp op) (low2 X.K g)) (ha : DE X W a ra) (hb : DE X W b rb) (hm : behindInMarks op b = false) : DT X W (.Compare a [op] [b] pos) (rTst (rOp g ra rb)) :=
  PT.imp (pt_cmpR ho ha hb hm) fun t H Q ⟨n, m, G, xd, q, hn, hs, hl, hr, hq⟩ =>
    ⟨n, m, G, xd, _, hn, hs, hl, hr, fun dx m1 x G1 H1 e1 s1 r1 q1 => ⟨n, m1, G1, xd, _, hn.mono e1, s1, hl.mono e1, q1, fun dy m2 y G2 H2 e2 s2 r2 q2 =>
      ⟨dx, dy, m2, G2, _, r1.mono e2, r2, s2, q2, fun d m' v G' H' e3 s3 r3 ⟨k, e, q3⟩ => by
        subst e
        cases r3
        exact ⟨k, rfl, hq k m' G' H' (e1.trans (e2.trans e3)) s3 q3⟩⟩⟩⟩

/-! ### and, or, not, if -/
def rNot (r : RT) : RT := fun xd n m q => r xd n m fun b m1 => q (!b) m1
def rAnd (r u : RT) : RT := fun xd n m q => r xd n m fun b m1 => if b = true then u xd n m1 q else q false m1
def rOr (r u : RT) : RT := fun xd n m q => r xd n m fun b m1 => if b = true then q true m1 else u xd n m1 q
variable {ta tb : RT} {rest : List Expr}
theorem dt_not (h : DT X W a ta) : DT X W (.UnaryOp .Not a pos) (rNot ta) := PT.imp (pt_not h) fun t H Q ⟨n, m, G, xd, q, hn, hs, hl, hr, hq⟩ =>
  ⟨n, m, G, xd, _, hn, hs, hl, hr, fun b m1 G1 H1 e1 s1 q1 => hq (!b) m1 G1 H1 e1 s1 q1⟩
theorem dw_and1 (h : DT X W a ta) : DW X W (.BoolOp .And [a] pos) ta := pw_and1 h
theorem dw_or1 (h : DT X W a ta) : DW X W (.BoolOp .Or [a] pos) ta := pw_or1 h
theorem dw_and (ha : DT X W a ta) (hb : DW X W (.BoolOp .And (b :: rest) pos) tb) : DW X W (.BoolOp .And (a :: b :: rest) pos) (rAnd ta tb) := PW.imp (pw_and ha hb) fun t H Q ⟨n, m, G, xd, q, hn, hs, hl, hr, hq⟩ =>
  ⟨n, m, G, xd, _, hn, hs, hl, hr, fun b m1 G1 H1 e1 s1 q1 => by
    cases b with
    | true => exact ⟨n, m1, G1, xd, q, hn.mono e1, s1, hl.mono e1, q1, fun b m' G' H' e2 s2 q2 => hq b m' G' H' (e1.trans e2) s2 q2⟩
    | false => exact hq false m1 G1 H1 e1 s1 q1⟩
theorem dw_or (ha : DT X W a ta) (hb : DW X W (.BoolOp .Or (b :: rest) pos) tb) : DW X W (.BoolOp .Or (a :: b :: rest) pos) (rOr ta tb) := PW.imp (pw_or ha hb) fun t H Q ⟨n, m, G, xd, q, hn, hs, hl, hr, hq⟩ =>
  ⟨n, m, G, xd, _, hn, hs, hl, hr, fun b m1 G1 H1 e1 s1 q1 => by
    cases b with
    | true => exact hq true m1 G1 H1 e1 s1 q1
    | false => exact ⟨n, m1, G1, xd, q, hn.mono e1, s1, hl.mono e1, q1, fun b m' G' H' e2 s2 q2 => hq b m' G' H' (e1.trans e2) s2 q2⟩⟩
theorem DW.t {e : Expr} {r : RT} (h : DW X W e r) : DT X W e r := PW.pt h
/-- as values: all but the last are bools -/
def rAndV (r u : RE) : RE := fun xd n m q => r xd n m fun d m1 => ∃ b, d = .bl b ∧ if b = true then u xd n m1 q else q (.bl false) m1
def rOrV (r u : RE) : RE := fun xd n m q => r xd n m fun d m1 => ∃ b, d = .bl b ∧ if b = true then q (.bl true) m1 else u xd n m1 q
def rNotV (r : RE) : RE := fun xd n m q => r xd n m fun d m1 => ∃ b, d = .bl b ∧ q (.bl (!b)) m1
theorem de_one {op} (h : DE X W a ra) : DE X W (.BoolOp op [a] pos) ra := pe_one h
theorem de_and (ha : DE X W a ra) (hb : DE X W (.BoolOp .And (b :: rest) pos) rb) : DE X W (.BoolOp .And (a :: b :: rest) pos) (rAndV ra rb) := PE.imp (pe_and ha hb) fun t H Q ⟨n, m, G, xd, q, hn, hs, hl, hr, hq⟩ =>
  ⟨n, m, G, xd, _, hn, hs, hl, hr, fun d m1 v G1 H1 e1 s1 r1 ⟨b, e, q1⟩ => by
    subst e
    cases r1
    refine ⟨b, rfl, ?_⟩
    cases b with
    | true => exact ⟨n, m1, G1, xd, q, hn.mono e1, s1, hl.mono e1, q1, fun d m' v G' H' e2 s2 r2 q2 => hq d m' v G' H' (e1.trans e2) s2 r2 q2⟩
    | false => exact hq (.bl false) m1 _ G1 H1 e1 s1 (.bl false) q1⟩
theorem de_or (ha : DE X W a ra) (hb : DE X W (.BoolOp .Or (b :: rest) pos) rb) : DE X W (.BoolOp .Or (a :: b :: rest) pos) (rOrV ra rb) := PE.imp (pe_or ha hb) fun t H Q ⟨n, m, G, xd, q, hn, hs, hl, hr, hq⟩ =>
  ⟨n, m, G, xd, _, hn, hs, hl, hr, fun d m1 v G1 H1 e1 s1 r1 ⟨b, e, q1⟩ => by
    subst e
    cases r1
    refine ⟨b, rfl, ?_⟩
    cases b with
    | true => exact hq (.bl true) m1 _ G1 H1 e1 s1 (.bl true) q1
    | false => exact ⟨n, m1, G1, xd, q, hn.mono e1, s1, hl.mono e1, q1, fun d m' v G' H' e2 s2 r2 q2 => hq d m' v G' H' (e1.trans e2) s2 r2 q2⟩⟩
theorem de_not (ha : DE X W a ra) : DE X W (.UnaryOp .Not a pos) (rNotV ra) := PE.imp (pe_not ha) fun t H Q ⟨n, m, G, xd, q, hn, hs, hl, hr, hq⟩ =>
  ⟨n, m, G, xd, _, hn, hs, hl, hr, fun d m1 v G1 H1 e1 s1 r1 ⟨b, e, q1⟩ => by
    subst e
    cases r1
    exact ⟨b, rfl, hq (.bl (!b)) m1 _ G1 H1 e1 s1 (.bl _) q1⟩⟩
def rIfE (r : RT) (u v : RE) : RE := fun xd n m q => r xd n m fun b m1 => if b = true then u xd n m1 q else v xd n m1 q
theorem de_if (hc : DT X W c ta) (ha : DE X W a ra) (hb : DE X W b rb) : DE X W (.IfExp c a b pos) (rIfE ta ra rb) := PE.imp (pe_ifExp hc ha hb) fun t H Q ⟨n, m, G, xd, q, hn, hs, hl, hr, hq⟩ =>
  ⟨n, m, G, xd, _, hn, hs, hl, hr, fun b m1 G1 H1 e1 s1 q1 => by
    cases b with
    | true => exact ⟨n, m1, G1, xd, q, hn.mono e1, s1, hl.mono e1, q1, fun d m' v G' H' e2 s2 r2 q2 => hq d m' v G' H' (e1.trans e2) s2 r2 q2⟩
    | false => exact ⟨n, m1, G1, xd, q, hn.mono e1, s1, hl.mono e1, q1, fun d m' v G' H' e2 s2 r2 q2 => hq d m' v G' H' (e1.trans e2) s2 r2 q2⟩⟩
/-- a op b op c -/
def rChain (g g' : G2) (ra rb rc : RE) : RE := fun xd n m q => ra xd n m fun x m1 => rb xd n m1 fun y m2 => g x y m2 fun z m3 => ∃ k, z = .bl k ∧ if k = true then rc xd n m3 fun w m4 => g' y w m4 q else q (.bl false) m3
theorem lowChain {g g' : G2} : ∀ t H Q, lowE X.K W (rChain g g' ra rb rc) t H Q → tChain (low2 X.K g) (low2 X.K g') (lowE X.K W ra) (lowE X.K W rb) (lowE X.K W rc) t H Q := fun t H Q ⟨n, m, G, xd, q, hn, hs, hl, hr, hq⟩ =>
  ⟨n, m, G, xd, _, hn, hs, hl, hr, fun dx m1 x G1 H1 e1 s1 r1 q1 => ⟨n, m1, G1, xd, _, hn.mono e1, s1, hl.mono e1, q1, fun dy m2 y G2 H2 e2 s2 r2 q2 =>
    ⟨dx, dy, m2, G2, _, r1.mono e2, r2, s2, q2, fun d m3 v G3 H3 e3 s3 r3 ⟨k, e, q3⟩ => by
      subst e
      cases r3
      refine ⟨k, rfl, ?_⟩
      have e13 := e1.trans (e2.trans e3)
      cases k with
      | true => exact ⟨n, m3, G3, xd, _, hn.mono e13, s3, hl.mono e13, q3, fun dw m4 w G4 H4 e4 s4 r4 q4 => ⟨dy, dw, m4, G4, q, r2.mono (e3.trans e4), r4, s4, q4, fun d m' v G' H' e5 s5 r5 q5 => hq d m' v G' H' (e13.trans (e4.trans e5)) s5 r5 q5⟩⟩
      | false => exact hq (.bl false) m3 _ G3 H3 e13 s3 (.bl false) q3⟩⟩⟩
theorem de_chain {op op' : CmpOp} {g g' : G2} (ho : OpR X (compareOp op) (low2 X.K g)) (ho' : OpR X (compareOp op') (low2 X.K g')) (ha : DE X W a ra) (hb : DE X W b rb) (hc : DE X W c rc)
    (hm : lastMarks [op, op'] [b, c] = false := by with_unfolding_all rfl) : DE X W (.Compare a [op, op'] [b, c] pos) (rChain g g' ra rb rc) := PE.imp (pe_chain ho ho' ha hb hc hm) lowChain
theorem dt_chain {op op' : CmpOp} {g g' : G2} (ho : OpR X (compareOp op) (low2 X.K g)) (ho' : OpR X (compareOp op') (low2 X.K g')) (ha : DE X W a ra) (hb : DE X W b rb) (hc : DE X W c rc)
    (hm : lastMarks [op, op'] [b, c] = false := by with_unfolding_all rfl) : DT X W (.Compare a [op, op'] [b, c] pos) (rTst (rChain g g' ra rb rc)) := PT.imp (pt_chain ho ho' ha hb hc hm) fun t H Q ⟨n, m, G, xd, q, hn, hs, hl, hr, hq⟩ =>
  lowChain t H (fun x H' => ∃ k, x = .bl k ∧ Q k H') ⟨n, m, G, xd, _, hn, hs, hl, hr, fun d m1 v G1 H1 e1 s1 r1 ⟨b, e, q1⟩ => by
    subst e
    cases r1
    exact ⟨b, rfl, hq b m1 G1 H1 e1 s1 q1⟩⟩

/-! ### arguments -/
def rNil : RA := fun _ _ m q => q [] m
def rCons (r : RE) (u : RA) : RA := fun xd n m q => r xd n m fun d m1 => u xd n m1 fun ds m2 => q (d :: ds) m2
theorem da_nil : DA X W [] rNil := PA.imp pa_nil fun t H Q ⟨n, m, G, xd, q, hn, hs, hl, hr, hq⟩ => hq [] m [] G H (Same.refl G) hs .nil hr
theorem da_cons {e : Expr} {es : List Expr} {r : RE} {u : RA} (ha : DE X W e r) (hb : DA X W es u) (hs : starEach (e :: es) X.env = (false, eval e X.env) :: starEach es X.env := by rfl) : DA X W (e :: es) (rCons r u) :=
  PA.imp (pa_cons ha hb hs) fun t H Q ⟨n, m, G, xd, q, hn, hs, hl, hr, hq⟩ =>
    ⟨n, m, G, xd, _, hn, hs, hl, hr, fun d m1 v G1 H1 e1 s1 r1 q1 => ⟨n, m1, G1, xd, _, hn.mono e1, s1, hl.mono e1, q1, fun ds m2 vs G2 H2 e2 s2 r2 q2 => hq (d :: ds) m2 (v :: vs) G2 H2 (e1.trans e2) s2 (.cons (r1.mono e2) r2) q2⟩⟩

/-! ### displays -/
def rTup (r : RA) : RE := fun xd n m q => r xd n m fun ds m1 => ds.length ≤ sizeLine ∧ q (.tup ds) m1
/-- a list that won't change; one that may -/
def rLst (r : RA) : RE := fun xd n m q => r xd n m fun ds m1 => ds.length ≤ sizeLine ∧ q (.lst ds) m1
def rLstO (r : RA) : RE := fun xd n m q => r xd n m fun ds m1 => ds.length ≤ sizeLine ∧ ∀ p, m1 p = none → q (.ref p) (mset m1 p (.lst ds))
variable {es : List Expr} {u : RA}
theorem de_tup {x1} (h : DA X W es u) : DE X W (.Tuple es x1 pos) (rTup u) := PE.imp (pe_tup h) fun t H Q ⟨n, m, G, xd, q, hn, hs, hl, hr, hq⟩ =>
  ⟨n, m, G, xd, _, hn, hs, hl, hr, fun ds m1 vs G1 H1 e1 s1 r1 ⟨hz, q1⟩ => ⟨by rw [← r1.length]; exact hz, fun p hp => by
    obtain ⟨s2, e2⟩ := s1.laid hp (.tup vs)
    exact hq (.tup ds) m1 (.ref p) _ _ (e1.trans e2) s2 (.tup upd_same (r1.mono e2)) q1⟩⟩
theorem de_lst (h : DA X W es u) : DE X W (.List es pos) (rLst u) := PE.imp (pe_lst h) fun t H Q ⟨n, m, G, xd, q, hn, hs, hl, hr, hq⟩ =>
  ⟨n, m, G, xd, _, hn, hs, hl, hr, fun ds m1 vs G1 H1 e1 s1 r1 ⟨hz, q1⟩ => ⟨by rw [← r1.length]; exact hz, fun p hp => by
    obtain ⟨s2, e2⟩ := s1.laid hp (.lst vs)
    exact hq (.lst ds) m1 (.ref p) _ _ (e1.trans e2) s2 (.lst upd_same (r1.mono e2)) q1⟩⟩
theorem de_lstO (h : DA X W es u) : DE X W (.List es pos) (rLstO u) := PE.imp (pe_lst h) fun t H Q ⟨n, m, G, xd, q, hn, hs, hl, hr, hq⟩ =>
  ⟨n, m, G, xd, _, hn, hs, hl, hr, fun ds m1 vs G1 H1 e1 s1 r1 ⟨hz, q1⟩ => ⟨by rw [← r1.length]; exact hz, fun p hp =>
    hq (.ref p) _ (.ref p) _ _ e1 (s1.alloc hp (.lst r1)) (.ref p) (q1 p (s1.freeM hp))⟩⟩

/-! ### calls of built-ins -/
abbrev GC := List D → Mem → QD → Prop
def lowC (K : PySem.W.Frag) (g : GC) : List V → Hp → VK → Prop := fun xs H Q => ∃ ds m G q, Reps K G ds xs ∧ Sep K G m H ∧ g ds m q ∧ lowQ K G q Q
def rCB (g : GC) (r : RA) : RE := fun xd n m q => r xd n m fun ds m1 => g ds m1 q
theorem lowCB {g : GC} {r : RA} : ∀ t H Q, lowE X.K W (rCB g r) t H Q → tCB (lowC X.K g) (lowA X.K W r) t H Q := fun t H Q ⟨n, m, G, xd, q, hn, hs, hl, hr, hq⟩ =>
  ⟨n, m, G, xd, _, hn, hs, hl, hr, fun ds m1 vs G1 H1 e1 s1 r1 q1 => ⟨ds, m1, G1, q, r1, s1, q1, fun d m' v G' H' e2 s2 r2 q2 => hq d m' v G' H' (e1.trans e2) s2 r2 q2⟩⟩
theorem de_callB {x : Str} {id : String} {e : Expr} {p : Pos} {g : GC} (hc : CallR X (.builtin id) (lowC X.K g)) (hg : Gl X x) (hm : X.mg x = none) (hv : bootBuiltins x = some (.builtin id)) (ha : DA X W (e :: es) u) (hn : x ≠ "__name__" := by decide) (hdb : (x == ("__debug__" : Str)) = false := by decide)
    (he : starEach (e :: es) X.env = (false, eval e X.env) :: starEach es X.env := by rfl) (hpl : (backTo pos (starEach es X.env)).any (·.1) = false := by rfl) : DE X W (.Call (.Name x p) (e :: es) [] pos) (rCB g u) := PE.imp (pe_callB hc hg hm hv ha hn hdb he hpl) lowCB
theorem de_callTy {x : Str} {T : String} {e : Expr} {p : Pos} {g : GC} (hc : CallR X (.type T) (lowC X.K g)) (hg : Gl X x) (hm : X.mg x = none) (hv : bootBuiltins x = some (.type T)) (ha : DA X W (e :: es) u) (hn : x ≠ "__name__" := by decide) (hdb : (x == ("__debug__" : Str)) = false := by decide)
    (he : starEach (e :: es) X.env = (false, eval e X.env) :: starEach es X.env := by rfl) (hpl : (backTo pos (starEach es X.env)).any (·.1) = false := by rfl) : DE X W (.Call (.Name x p) (e :: es) [] pos) (rCB g u) := PE.imp (pe_callTy hc hg hm hv ha hn hdb he hpl) lowCB
end
end DL

/-! DL3: operations on data -/
namespace DL
open PySem PySem.Spec PyProof.Rows L2

/-- the items of a list, whether it may change or not -/
def moLst : Option MO → Option (List D)
  | some (.lst ds) => some ds
  | _ => none
def lstOf : D → Mem → Option (List D)
  | .lst ds, _ => some ds
  | .ref p, m => moLst (m p)
  | _, _ => none
section
variable {K : PySem.W.Frag} {G H : Hp} {m : Mem}
theorem lst_at {x : D} {v : V} {ds : List D} (s : Sep K G m H) (r : Rep K G x v) (h : lstOf x m = some ds) : ∃ p vs, v = .ref p ∧ H p = some (.lst vs) ∧ Reps K G ds vs := by
  cases r with
  | lst e r =>
    simp only [lstOf, Option.some.injEq] at h
    subst h
    exact ⟨_, _, rfl, s.sub _ _ e, r⟩
  | ref a =>
    have h : moLst (m a) = some ds := h
    have e : m a = some (.lst ds) := by
      cases q : m a with
      | none => rw [q] at h; cases h
      | some o =>
        rw [q] at h
        cases o with
        | lst es =>
          have z : es = ds := Option.some.inj h
          rw [z]
        | _ => cases h
    obtain ⟨vs, e1, r1⟩ := s.lst e
    exact ⟨a, vs, rfl, e1, r1⟩
  | _ => simp [lstOf] at h
theorem Rep.lift {d : D} {v : V} (s : Sep K G m H) (r : Rep K G d v) : Rep K H d v := r.mono s.sub
theorem str_len (a : List Nat) : (⟨a.toArray⟩ : Str).length = a.length := by simp [Str.length]
theorem str_app (a b : List Nat) : (⟨a.toArray⟩ : Str) ++ (⟨b.toArray⟩ : Str) = ⟨(a ++ b).toArray⟩ := by
  show Str.append _ _ = _
  simp [Str.append]
theorem str_inj {a b : List Nat} : ((⟨a.toArray⟩ : Str) = ⟨b.toArray⟩) ↔ a = b := by
  constructor
  · intro h
    have := congrArg (fun s : Str => s.cps.toList) h
    simpa using this
  · intro h; rw [h]
end

section
variable {X : Cx}
theorem opN {f : Value → Value → Sem Value} {g : G2} (h : ∀ (pins : List (Addr × Obj)) (s : Shared) (σ : L2.St) (H G : Hp) (m : Mem) (dx dy : D) (x y : V) (v u : Value) (q : QD) (Q : VK), Inv X pins σ H s → RelV x v → RelV y u → Rep X.K G dx x → Rep X.K G dy y → Sep X.K G m H → g dx dy m q → lowQ X.K G q Q →
    wpAny (model X.prog X.w) X.A (f v u) (EP X pins σ Q) X.xe s) : OpR X f (low2 X.K g) := by
  intro pins s σ H x y v u Q I rx ry ⟨dx, dy, m, G, q, hx, hy, hs, hg, hq⟩
  exact h pins s σ H G m dx dy x y v u q Q I rx ry hx hy hs hg hq

/-! ### + - * // % ** -/
def gAdd : D → D → Mem → QD → Prop
  | .int i, .int j, m, q => q (.int (i + j)) m
  | .str a, .str b, m, q => a.length + b.length ≤ sizeLine ∧ q (.str (a ++ b)) m
  | x, y, m, q => ∃ a b, lstOf x m = some a ∧ lstOf y m = some b ∧ a.length + b.length ≤ sizeLine ∧ q (.lst (a ++ b)) m
theorem cat_ok {pins : List (Addr × Obj)} {s : Shared} {σ : L2.St} {H G : Hp} {m : Mem} {dx dy : D} {x y : V} {v u : Value} {q : QD} {Q : VK} (I : Inv X pins σ H s) (rx : RelV x v) (ry : RelV y u) (hx : Rep X.K G dx x) (hy : Rep X.K G dy y) (hs : Sep X.K G m H)
    (hg : ∃ a b, lstOf dx m = some a ∧ lstOf dy m = some b ∧ a.length + b.length ≤ sizeLine ∧ q (.lst (a ++ b)) m) (hq : lowQ X.K G q Q) : wpAny (model X.prog X.w) X.A (binaryOp .Add v u) (EP X pins σ Q) X.xe s := by
  obtain ⟨a, b, ea, eb, hz, k⟩ := hg
  obtain ⟨p, vs, rfl, hp, ra⟩ := lst_at hs hx ea
  obtain ⟨p', us, rfl, hp', rb⟩ := lst_at hs hy eb
  refine op_cat pins s σ H _ _ v u Q I rx ry ⟨p, p', vs, us, rfl, rfl, hp, hp', by rw [← ra.length, ← rb.length]; exact hz, fun l hl => ?_⟩
  obtain ⟨s2, e2⟩ := hs.laid hl (.lst (vs ++ us))
  exact hq _ m _ _ _ e2 s2 (.lst upd_same ((ra.append rb).mono e2)) k
theorem od_add : OpR X (binaryOp .Add) (low2 X.K gAdd) := opN fun pins s σ H G m dx dy x y v u q Q I rx ry hx hy hs hg hq => by
  cases dx with
  | int i =>
    cases dy with
    | int j =>
      cases hx; cases hy
      exact op_add pins s σ H _ _ v u Q I rx ry ⟨i, j, rfl, rfl, hq.here hs (.int _) hg⟩
    | _ => exact cat_ok I rx ry hx hy hs hg hq
  | str a =>
    cases dy with
    | str b =>
      cases hx; cases hy
      exact op_add_str pins s σ H _ _ v u Q I rx ry ⟨_, _, rfl, rfl, by rw [str_len, str_len]; exact hg.1, by rw [str_app]; exact hq.here hs (.str _) hg.2⟩
    | _ => exact cat_ok I rx ry hx hy hs hg hq
  | _ => cases dy <;> exact cat_ok I rx ry hx hy hs hg hq
def gI (C : Int → Int → Prop) (f : Int → Int → Int) : D → D → Mem → QD → Prop
  | .int i, .int j, m, q => C i j ∧ q (.int (f i j)) m
  | _, _, m, q => False
theorem odI {f : Value → Value → Sem Value} {C : Int → Int → Prop} {g : Int → Int → Int} (h : OpR X f (rI C fun i j => .int (g i j))) : OpR X f (low2 X.K (gI C g)) := opN fun pins s σ H G m dx dy x y v u q Q I rx ry hx hy hs hg hq => by
  cases dx with
  | int i =>
    cases dy with
    | int j =>
      cases hx; cases hy
      exact h pins s σ H _ _ v u Q I rx ry ⟨i, j, rfl, rfl, hg.1, hq.here hs (.int _) hg.2⟩
    | _ => exact False.elim hg
  | _ => cases dy <;> exact False.elim hg
def gSub : D → D → Mem → QD → Prop
  | .int i, .int j, m, q => q (.int (i - j)) m
  | _, _, m, q => False
theorem od_sub : OpR X (binaryOp .Sub) (low2 X.K gSub) := opN fun pins s σ H G m dx dy x y v u q Q I rx ry hx hy hs hg hq => by
  cases dx with
  | int i =>
    cases dy with
    | int j =>
      cases hx; cases hy
      exact op_sub pins s σ H _ _ v u Q I rx ry ⟨i, j, rfl, rfl, hq.here hs (.int _) hg⟩
    | _ => exact False.elim hg
  | _ => cases dy <;> exact False.elim hg
abbrev gFdiv : G2 := gI CDiv fun i j => i / j
abbrev gMod : G2 := gI (fun _ j => 0 < j) fun i j => i % j
abbrev gPow : G2 := gI CPow fun i j => i ^ j.toNat
theorem od_fdiv : OpR X (binaryOp .FloorDiv) (low2 X.K gFdiv) := odI op_fdiv
theorem od_mod : OpR X (binaryOp .Mod) (low2 X.K gMod) := odI op_mod
theorem od_pow : OpR X (binaryOp .Pow) (low2 X.K gPow) := odI op_pow
def reps (k : Int) {α : Type} (a : List α) : List α := (List.replicate k.toNat a).flatten
def gMul : D → D → Mem → QD → Prop
  | .int i, .int j, m, q => CMul i j ∧ q (.int (i * j)) m
  | .str a, .int k, m, q => (-(2 ^ 63) ≤ k ∧ k < 2 ^ 62 ∧ a.length * k.toNat ≤ sizeLine) ∧ q (.str (reps k a)) m
  | x, .int k, m, q => ∃ a, lstOf x m = some a ∧ (-(2 ^ 63) ≤ k ∧ k < 2 ^ 63 ∧ a.length * k.toNat ≤ sizeLine) ∧ q (.lst (reps k a)) m
  | _, _, m, q => False
theorem foldl_cps (a : List Nat) : ∀ (n : Nat) (acc : Array Nat), (List.replicate n a.toArray).foldl (· ++ ·) acc = acc ++ ((List.replicate n a).flatten).toArray
  | 0, acc => by simp
  | n + 1, acc => by
    rw [List.replicate_succ, List.foldl_cons, foldl_cps a n, List.replicate_succ, List.flatten_cons]
    simp
theorem mul_str_ok {pins : List (Addr × Obj)} {s : Shared} {σ : L2.St} {H : Hp} {a : List Nat} {k : Int} {t u : Tok} {Q : VK} (I : Inv X pins σ H s) (h1 : -(2 ^ 63) ≤ k) (h2 : k < 2 ^ 62) (hz : a.length * k.toNat ≤ sizeLine) (q : Q (.str ⟨(reps k a).toArray⟩) H) :
    wpAny (model X.prog X.w) X.A (binaryOp .Mult (.str ⟨a.toArray⟩ t) (.int k u)) (EP X pins σ Q) X.xe s := by
  have hl : (⟨a.toArray⟩ : Str).length = a.length := str_len a
  refine PySem.P.mul_str ?_ ?_ ?_ ?_
  · rw [decide_eq_false (by omega), decide_eq_false (by omega)] <;> rfl
  · intro h3 h4
    rw [hl]
    intro h5
    have hs : sizeLine = 16777216 := sizeLine_eq
    have e : (a.length : Int) * k ≤ 16777216 := by
      have e1 : k = ((k.toNat : Nat) : Int) := by omega
      rw [e1]
      have : ((a.length * k.toNat : Nat) : Int) ≤ 16777216 := by omega
      simpa using this
    have hk : 1 ≤ k := by omega
    have h6 : ((2 ^ 63 - 1) / k + 1) * k ≤ (a.length : Int) * k := Int.mul_le_mul_of_nonneg_right (by omega) (by omega)
    have h7 : (2 ^ 63 - 1 : Int) < ((2 ^ 63 - 1) / k + 1) * k := Int.lt_ediv_add_one_mul_self _ (by omega)
    have h8 : (2 ^ 63 - 1 : Int) < 16777216 := Int.lt_of_lt_of_le h7 (Int.le_trans h6 e)
    omega
  · intro _ _
    rw [hl]
    unfold Builtin.Str.tooLong
    exact decide_eq_false (by omega)
  · by_cases h3 : k < 1
    · rw [if_pos h3]
      refine ⟨by decide, ?_⟩
      have e : k.toNat = 0 := by omega
      refine ⟨.str Str.empty, H, I.tok _, ⟨_, rfl⟩, ?_⟩
      unfold reps at q
      rw [e] at q
      exact q
    · rw [if_neg h3]
      by_cases h4 : (k == 1 || (⟨a.toArray⟩ : Str).length == 0) = true
      · rw [if_pos h4]
        refine ⟨.str ⟨a.toArray⟩, H, I, ⟨_, rfl⟩, ?_⟩
        have e : reps k a = a := by
          rw [hl] at h4
          simp at h4
          unfold reps
          rcases h4 with h4 | h4
          · rw [h4]; simp
          · rw [h4]; simp
        rw [e] at q
        exact q
      · rw [if_neg h4]
        have e : (⟨(List.replicate k.toNat (⟨a.toArray⟩ : Str).cps).foldl (· ++ ·) #[]⟩ : Str) = ⟨(reps k a).toArray⟩ := by
          show (⟨(List.replicate k.toNat a.toArray).foldl (· ++ ·) #[]⟩ : Str) = _
          rw [foldl_cps]
          simp [reps]
        rw [e]
        refine ⟨?_, ⟨.str ⟨(reps k a).toArray⟩, H, I.tok _, ⟨_, rfl⟩, q⟩⟩
        rw [str_len]
        unfold reps
        rw [List.length_flatten]
        simp
        rw [Nat.mul_comm]
        exact hz
theorem rep_ok {pins : List (Addr × Obj)} {s : Shared} {σ : L2.St} {H G : Hp} {m : Mem} {dx : D} {k : Int} {x y : V} {v u : Value} {q : QD} {Q : VK} (I : Inv X pins σ H s) (rx : RelV x v) (ry : RelV y u) (hx : Rep X.K G dx x) (hy : Rep X.K G (.int k) y) (hs : Sep X.K G m H)
    (hg : ∃ a, lstOf dx m = some a ∧ (-(2 ^ 63) ≤ k ∧ k < 2 ^ 63 ∧ a.length * k.toNat ≤ sizeLine) ∧ q (.lst (reps k a)) m) (hq : lowQ X.K G q Q) : wpAny (model X.prog X.w) X.A (binaryOp .Mult v u) (EP X pins σ Q) X.xe s := by
  obtain ⟨a, ea, ⟨h1, h2, hz⟩, kk⟩ := hg
  obtain ⟨p, vs, rfl, hp, ra⟩ := lst_at hs hx ea
  cases hy
  refine op_rep pins s σ H _ _ v u Q I rx ry ⟨p, k, vs, rfl, rfl, hp, h1, h2, by rw [← ra.length]; exact hz, fun l hl => ?_⟩
  obtain ⟨s2, e2⟩ := hs.laid hl (.lst (List.replicate k.toNat vs).flatten)
  have rr : ∀ n : Nat, Reps X.K G (List.replicate n a).flatten (List.replicate n vs).flatten := by
    intro n
    induction n with
    | zero => exact .nil
    | succ n ih =>
      rw [List.replicate_succ, List.replicate_succ, List.flatten_cons, List.flatten_cons]
      exact ra.append ih
  exact hq _ m _ _ _ e2 s2 (.lst upd_same ((rr _).mono e2)) kk
theorem od_mul : OpR X (binaryOp .Mult) (low2 X.K gMul) := opN fun pins s σ H G m dx dy x y v u q Q I rx ry hx hy hs hg hq => by
  cases dy with
  | int j =>
    cases dx with
    | int i =>
      cases hx; cases hy
      exact op_mul pins s σ H _ _ v u Q I rx ry ⟨i, j, rfl, rfl, hg.1, hq.here hs (.int _) hg.2⟩
    | str a =>
      cases hx; cases hy
      obtain ⟨t, rfl⟩ := rx
      obtain ⟨t', rfl⟩ := ry
      exact mul_str_ok I hg.1.1 hg.1.2.1 hg.1.2.2 (hq.here hs (.str _) hg.2)
    | _ => exact rep_ok I rx ry hx hy hs hg hq
  | _ => cases dx <;> exact False.elim hg

/-! ### comparisons -/
def gCmp (p : Int → Int → Bool) (r : List Nat → List Nat → Bool) : D → D → Mem → QD → Prop
  | .int i, .int j, m, q => q (.bl (p i j)) m
  | .str a, .str b, m, q => q (.bl (r a b)) m
  | _, _, m, q => False
theorem odCmp {f : Value → Value → Sem Value} {p : Int → Int → Bool} {r : List Nat → List Nat → Bool} (h1 : OpR X f (rI0 fun i j => .bl (p i j))) (h2 : OpR X f (fun x y H Q => ∃ i j : Str, x = .str i ∧ y = .str j ∧ Q (.bl (r i.cps.toList j.cps.toList)) H)) : OpR X f (low2 X.K (gCmp p r)) :=
  opN fun pins s σ H G m dx dy x y v u q Q I rx ry hx hy hs hg hq => by
  cases dx with
  | int i =>
    cases dy with
    | int j =>
      cases hx; cases hy
      exact h1 pins s σ H _ _ v u Q I rx ry ⟨i, j, rfl, rfl, hq.here hs (.bl _) hg⟩
    | _ => exact False.elim hg
  | str a =>
    cases dy with
    | str b =>
      cases hx; cases hy
      exact h2 pins s σ H _ _ v u Q I rx ry ⟨_, _, rfl, rfl, by simpa using hq.here hs (.bl _) hg⟩
    | _ => exact False.elim hg
  | _ => cases dy <;> exact False.elim hg
abbrev gLt : G2 := gCmp (fun i j => decide (i < j)) fun a b => decide (a < b)
abbrev gLe : G2 := gCmp (fun i j => decide (i ≤ j)) fun a b => !decide (b < a)
abbrev gGt : G2 := gCmp (fun i j => decide (j < i)) fun a b => decide (b < a)
abbrev gGe : G2 := gCmp (fun i j => decide (j ≤ i)) fun a b => !decide (a < b)
theorem od_lt : OpR X (compareOp .Lt) (low2 X.K gLt) := odCmp op_lt op_lt_str
theorem od_le : OpR X (compareOp .LtE) (low2 X.K gLe) := odCmp op_le op_le_str
theorem od_gt : OpR X (compareOp .Gt) (low2 X.K gGt) := odCmp op_gt op_gt_str
theorem od_ge : OpR X (compareOp .GtE) (low2 X.K gGe) := odCmp op_ge op_ge_str
/-- == of data: scalars; plain data of any shape -/
def eqS : D → D → Option Bool
  | .int i, .int j => some (decide (i = j))
  | .str a, .str b => some (decide (a = b))
  | .bl a, .bl b => some (decide (a = b))
  | .non, .non => some true
  | .non, .int _ => some false
  | .int _, .non => some false
  | .non, .str _ => some false
  | .str _, .non => some false
  | .non, .bl _ => some false
  | .bl _, .non => some false
  | .int _, .str _ => some false
  | .str _, .int _ => some false
  | .bl _, .str _ => some false
  | .str _, .bl _ => some false
  | _, _ => none
/-- owned lists as trees, for a look -/
def moSeen (x : D) : Option MO → D
  | some (.lst ds) => .lst ds
  | _ => x
def seen : D → Mem → D
  | .ref p, m => moSeen (.ref p) (m p)
  | .non, _ => .non
  | .bl b, _ => .bl b
  | .int i, _ => .int i
  | .str a, _ => .str a
  | .ty n, _ => .ty n
  | .tup ds, _ => .tup ds
  | .lst ds, _ => .lst ds
  | .scr ns, _ => .scr ns
  | .ins C fs, _ => .ins C fs
  | .exc a c o n fs, _ => .exc a c o n fs
  | .dct t k, _ => .dct t k
  | .fn f S cl c ws cs, _ => .fn f S cl c ws cs
def eqK (f : Bool → Bool) (x y : D) (m : Mem) (q : QD) : Option Bool → Prop
  | some b => q (.bl (f b)) m
  | none => fl 60 (seen x m) = true ∧ fl 60 (seen y m) = true ∧ q (.bl (f (eqD (seen x m) (seen y m)))) m
def gEqB (f : Bool → Bool) : G2 := fun x y m q => eqK f x y m q (eqS x y)
/-- == of dicts with int and text keys, where they hold the same scalars -/
def sca : D → Bool
  | .non => true
  | .bl _ => true
  | .int _ => true
  | .str _ => true
  | _ => false
def dctEq (t : Bool) (ks : List (D × D)) : D → Mem → QD → Prop
  | .dct u ls, m, q => t = false ∧ u = false ∧ ks = ls ∧ (ks.all fun p => sca p.2) = true ∧ (ks.map fun p => keyOf p.1).Nodup ∧ q (.bl true) m
  | _, _, _ => False
def gEq : D → D → Mem → QD → Prop
  | .dct t ks, y, m, q => dctEq t ks y m q
  | x, y, m, q => gEqB (fun b => b) x y m q
abbrev gNe : G2 := gEqB fun b => !b
theorem seen_rep {K : PySem.W.Frag} {G H : Hp} {m : Mem} {x : D} {v : V} (s : Sep K G m H) (r : Rep K G x v) : Rep K H (seen x m) v := by
  cases r with
  | ref a =>
    show Rep K H (moSeen (.ref a) (m a)) (.ref a)
    cases q : m a with
    | none => exact .ref a
    | some o =>
      cases o with
      | lst ds =>
        obtain ⟨vs, e1, r1⟩ := s.lst q
        exact .lst e1 (r1.mono s.sub)
      | _ => exact .ref a
  | non => exact .non
  | bl b => exact .bl b
  | int i => exact .int i
  | str c => exact .str c
  | ty n => exact .ty n
  | tup e r => exact (Rep.tup e r).mono s.sub
  | lst e r => exact (Rep.lst e r).mono s.sub
  | scr e => exact (Rep.scr e).mono s.sub
  | ins c e r => exact (Rep.ins c e r).mono s.sub
  | exc c e r => exact (Rep.exc c e r).mono s.sub
  | exc0 c => exact (Rep.exc0 c).mono s.sub
  | exv c e k r => exact (Rep.exv c e k r).mono s.sub
  | exv0 c e => exact (Rep.exv0 c e).mono s.sub
  | dK e r => exact (Rep.dK e r).mono s.sub
  | dT e z l n r => exact (Rep.dT e z l n r).mono s.sub
  | fn a b r0 => exact (Rep.fn a b r0).mono s.sub
theorem eqS_ok {K : PySem.W.Frag} {G : Hp} {dx dy : D} {x y : V} {b : Bool} (hx : Rep K G dx x) (hy : Rep K G dy y) (h : eqS dx dy = some b) : scal x y = true ∧ decide (x = y) = b := by
  cases hx <;> cases hy <;> simp [eqS] at h <;> subst h <;> refine ⟨rfl, ?_⟩ <;> simp
  all_goals first
    | done
    | (rw [Bool.eq_iff_iff]; simp)
theorem odEqB (hu : X.A.units + 64 < cLine) : OpR X (compareOp .Eq) (low2 X.K (gEqB fun b => b)) := opN fun pins s σ H G m dx dy x y v u q Q I rx ry hx hy hs hg hq => by
  simp only [gEqB] at hg
  cases e : eqS dx dy with
  | some b =>
    rw [e] at hg
    obtain ⟨h1, h2⟩ := eqS_ok hx hy e
    exact op_eq pins s σ H x y v u Q I rx ry ⟨h1, by rw [h2]; exact hq.here hs (.bl _) hg⟩
  | none =>
    rw [e] at hg
    obtain ⟨f1, f2, k⟩ := hg
    exact op_eqD hu pins s σ H x y v u Q I rx ry ⟨_, _, (seen_rep hs hx).dp 60 f1, (seen_rep hs hy).dp 60 f2, fl_shaped f1 (by decide), fl_shaped f2 (by decide), hq.here hs (.bl _) k⟩
theorem valV_mem : ∀ {us : List (Key × V)} {p : Key × V}, (us.map (·.1)).Nodup → p ∈ us → valV us p.1 = some p.2
  | a :: us, p, hn, hp => by
    rw [List.map_cons, List.nodup_cons] at hn
    rcases List.mem_cons.mp hp with rfl | hp
    · exact valV_pos rfl
    · rw [valV_neg fun e => hn.1 (e ▸ List.mem_map_of_mem (f := (·.1)) hp)]
      exact valV_mem hn.2 hp
theorem nodup_some : ∀ {us : List (Key × V)}, (us.map fun p => some p.1).Nodup → (us.map (·.1)).Nodup
  | [], _ => List.nodup_nil
  | a :: us, h => by
    rw [List.map_cons, List.nodup_cons] at h ⊢
    refine ⟨fun z => h.1 ?_, nodup_some h.2⟩
    obtain ⟨b, hb, e⟩ := List.mem_map.mp z
    exact List.mem_map.mpr ⟨b, hb, by rw [e]⟩
theorem repK_same {K : PySem.W.Frag} {G : Hp} : ∀ {ks : List (D × D)} {us ws : List (Key × V)}, RepK K G ks us → RepK K G ks ws → (ks.all fun p => sca p.2) = true → us = ws
  | _, _, _, .nil, .nil, _ => rfl
  | _, _, _, .cons k1 r1 t1, .cons k2 r2 t2, h => by
    rw [List.all_cons, Bool.and_eq_true] at h
    have e1 := Option.some.inj (k1.symm.trans k2)
    subst e1
    rw [repK_same t1 t2 h.2]
    congr 2
    cases r1 <;> simp [sca] at h <;> cases r2 <;> rfl
theorem repK_len {K : PySem.W.Frag} {G : Hp} : ∀ {ks : List (D × D)} {us : List (Key × V)}, RepK K G ks us → ks.length = us.length
  | _, _, .nil => rfl
  | _, _, .cons _ _ t => by rw [List.length_cons, List.length_cons, repK_len t]
theorem repK_keys {K : PySem.W.Frag} {G : Hp} : ∀ {ks : List (D × D)} {us : List (Key × V)}, RepK K G ks us → ks.map (fun p => keyOf p.1) = us.map fun p => some p.1
  | _, _, .nil => rfl
  | _, _, .cons k _ t => by rw [List.map_cons, List.map_cons, repK_keys t, k]
theorem repK_sca {K : PySem.W.Frag} {G : Hp} : ∀ {ks : List (D × D)} {us : List (Key × V)}, RepK K G ks us → (ks.all fun p => sca p.2) = true → ∀ p ∈ us, flatB p.2 = true
  | _, _, .cons k r t, h, p, hp => by
    rw [List.all_cons, Bool.and_eq_true] at h
    rcases List.mem_cons.mp hp with rfl | hp
    · cases r <;> simp [sca] at h <;> rfl
    · exact repK_sca t h.2 p hp
theorem odEq (hu : X.A.units + 64 < cLine) : OpR X (compareOp .Eq) (low2 X.K gEq) := opN fun pins s σ H G m dx dy x y v u q Q I rx ry hx hy hs hg hq => by
  have fall : gEqB (fun b => b) dx dy m q → wpAny (model X.prog X.w) X.A (compareOp .Eq v u) (EP X pins σ Q) X.xe s := fun hg => odEqB hu pins s σ H x y v u Q I rx ry ⟨dx, dy, m, G, q, hx, hy, hs, hg, hq⟩
  cases dx with
  | dct t ks =>
    cases dy with
    | dct u ls =>
      obtain ⟨rfl, rfl, rfl, hsc, hnd, k⟩ := hg
      cases hx with
      | dK e1 r1 =>
        cases hy with
        | dK e2 r2 =>
          have e3 := repK_same r1 r2 hsc
          subst e3
          obtain ⟨_, ya, va, ra, da⟩ := dk_rd I.hok (.inr ⟨_, hs.sub _ _ e1⟩)
          obtain ⟨_, yb, vb, rb, db⟩ := dk_rd I.hok (.inr ⟨_, hs.sub _ _ e2⟩)
          cases rx
          cases ry
          refine PySem.W.rcP_dicts (A := X.A) (knd := mixKind X.prog X.w) (r := true) ya yb da db (by omega) (fun _ => hits_run (F := EqV X.K H 1) (eqV_run I 1 X.A.in1 (by show X.A.units + 1 + 1 < cLine; omega)) rb ra fun p hp => ⟨p.2, ?_, .inl ⟨rfl, repK_sca r1 hsc p hp⟩⟩) _ _ ?_
          · rw [repK_keys r1] at hnd
            exact valV_mem (nodup_some hnd) hp
          · have e : va.length = vb.length := by rw [← ra.length, ← rb.length]
            rw [show (va.length == vb.length && true) = true from by rw [e]; simp]
            exact ⟨.bl true, H, I, rfl, hq.here hs (.bl _) k⟩
    | _ => exact False.elim hg
  | _ => exact fall hg
theorem odNe (hu : X.A.units + 64 < cLine) : OpR X (compareOp .NotEq) (low2 X.K gNe) := opN fun pins s σ H G m dx dy x y v u q Q I rx ry hx hy hs hg hq => by
  simp only [gEq, gNe, gEqB] at hg
  cases e : eqS dx dy with
  | some b =>
    rw [e] at hg
    obtain ⟨h1, h2⟩ := eqS_ok hx hy e
    exact op_ne pins s σ H x y v u Q I rx ry ⟨h1, by rw [h2]; exact hq.here hs (.bl _) hg⟩
  | none =>
    rw [e] at hg
    obtain ⟨f1, f2, k⟩ := hg
    exact op_neD hu pins s σ H x y v u Q I rx ry ⟨_, _, (seen_rep hs hx).dp 60 f1, (seen_rep hs hy).dp 60 f2, fl_shaped f1 (by decide), fl_shaped f2 (by decide), hq.here hs (.bl _) k⟩
/-- one sign in a text -/
def gInB (f : Bool → Bool) : D → D → Mem → QD → Prop
  | .str [c], .str z, m, q => q (.bl (f (decide (c ∈ z)))) m
  | _, _, m, q => False
abbrev gIn : G2 := gInB fun b => b
abbrev gNotIn : G2 := gInB fun b => !b
theorem od_in : OpR X (compareOp .In) (low2 X.K gIn) := opN fun pins s σ H G m dx dy x y v u q Q I rx ry hx hy hs hg hq => by
  unfold gIn gInB at hg
  split at hg
  · rename_i c z
    cases hx; cases hy
    exact op_in_sign pins s σ H _ _ v u Q I rx ry ⟨c, _, rfl, rfl, by simpa using hq.here hs (.bl _) hg⟩
  · exact False.elim hg
theorem od_notIn : OpR X (compareOp .NotIn) (low2 X.K gNotIn) := opN fun pins s σ H G m dx dy x y v u q Q I rx ry hx hy hs hg hq => by
  unfold gNotIn gInB at hg
  split at hg
  · rename_i c z
    cases hx; cases hy
    exact op_notIn_sign pins s σ H _ _ v u Q I rx ry ⟨c, _, rfl, rfl, by simpa using hq.here hs (.bl _) hg⟩
  · exact False.elim hg
def isNon : D → Bool
  | .non => true
  | _ => false
def gIsB (f : Bool → Bool) : D → D → Mem → QD → Prop
  | x, .non, m, q => q (.bl (f (isNon x))) m
  | .bl a, .bl b, m, q => q (.bl (f (decide (a = b)))) m
  | _, _, m, q => False
abbrev gIs : G2 := gIsB fun b => b
abbrev gIsNot : G2 := gIsB fun b => !b
theorem isNon_ok {K : PySem.W.Frag} {G : Hp} {d : D} {x : V} (h : Rep K G d x) : decide (x = .non) = isNon d := by
  cases h <;> simp [isNon]
theorem od_is : OpR X (compareOp .Is) (low2 X.K gIs) := opN fun pins s σ H G m dx dy x y v u q Q I rx ry hx hy hs hg hq => by
  unfold gIs gIsB at hg
  split at hg
  · cases hy
    exact op_isN pins s σ H _ _ v u Q I rx ry ⟨rfl, by rw [isNon_ok hx]; exact hq.here hs (.bl _) hg⟩
  · cases hx; cases hy
    exact op_isBl pins s σ H _ _ v u Q I rx ry ⟨_, _, rfl, rfl, hq.here hs (.bl _) hg⟩
  · exact False.elim hg
theorem od_isNot : OpR X (compareOp .IsNot) (low2 X.K gIsNot) := opN fun pins s σ H G m dx dy x y v u q Q I rx ry hx hy hs hg hq => by
  unfold gIsNot gIsB at hg
  split at hg
  · cases hy
    exact op_notN pins s σ H _ _ v u Q I rx ry ⟨rfl, by rw [isNon_ok hx]; exact hq.here hs (.bl _) hg⟩
  · cases hx; cases hy
    exact op_notBl pins s σ H _ _ v u Q I rx ry ⟨_, _, rfl, rfl, hq.here hs (.bl _) hg⟩
  · exact False.elim hg
end
end DL

/-! DL4: built-ins, methods, places, slices -/
namespace DL
open PySem PySem.Spec PyProof.Rows L2
section
variable {X : Cx} {W : WX}
theorem crN {f : Value} {g : GC} {r : List V → Hp → VK → Prop} (h : CallR X f r) (i : ∀ (H G : Hp) (m : Mem) (ds : List D) (vs : List V) (q : QD) (Q : VK), Reps X.K G ds vs → Sep X.K G m H → g ds m q → lowQ X.K G q Q → r vs H Q) : CallR X f (lowC X.K g) := by
  intro pins s σ H xs us Q I rv ⟨ds, m, G, q, hr, hs, hg, hq⟩
  exact h pins s σ H xs us Q I rv (i H G m ds xs q Q hr hs hg hq)
def gLen : List D → Mem → QD → Prop
  | [.str a], m, q => a.length ≤ sizeLine ∧ q (.int a.length) m
  | [.tup ds], m, q => q (.int ds.length) m
  | [.scr ns], m, q => q (.int ns.length) m
  | [x], m, q => ∃ ds, lstOf x m = some ds ∧ q (.int ds.length) m
  | _, m, q => False
theorem cd_len : CallR X (.builtin "len") (lowC X.K gLen) := crN call_len fun H G m ds vs q Q hr hs hg hq => by
  cases hr with
  | nil => exact False.elim hg
  | cons h r =>
    cases r with
    | cons _ _ => simp only [gLen] at hg
    | nil =>
      have fall : ∀ {x : D} {v : V}, Rep X.K G x v → (∃ ds, lstOf x m = some ds ∧ q (.int ds.length) m) → ∃ y n, [v] = [y] ∧ LenV X.K y H n ∧ Q (.int n) H := fun {x v} h ⟨ds, e, k⟩ => by
        obtain ⟨p, vs, rfl, hp, ra⟩ := lst_at hs h e
        exact ⟨_, ds.length, rfl, .inl ⟨vs, SqL.of hp, ra.length⟩, hq.here hs (.int _) k⟩
      cases h with
      | str a => exact ⟨_, a.length, rfl, ⟨by rw [str_len]; exact hg.1, (str_len a).symm⟩, hq.here hs (.int _) hg.2⟩
      | tup e r => exact ⟨_, _, rfl, .inr ⟨_, SqT.of (hs.sub _ _ e), r.length⟩, hq.here hs (.int _) hg⟩
      | scr e => exact ⟨_, _, rfl, .inl ⟨_, hs.sub.seq e, by simp⟩, hq.here hs (.int _) hg⟩
      | non => exact fall .non hg
      | bl b => exact fall (.bl b) hg
      | int i => exact fall (.int i) hg
      | ref a => exact fall (.ref a) hg
      | ty n => exact fall (.ty n) hg
      | lst e r => exact fall (.lst e r) hg
      | ins c e r => exact fall (.ins c e r) hg
      | exc c e r => exact fall (.exc c e r) hg
      | exc0 c => exact fall (.exc0 c) hg
      | exv c e k r => exact fall (.exv c e k r) hg
      | exv0 c e => exact fall (.exv0 c e) hg
      | dK e r => exact fall (.dK e r) hg
      | dT e z l n r => exact fall (.dT e z l n r) hg
      | fn a b r0 => exact fall (.fn a b r0) hg
def gAbs : List D → Mem → QD → Prop
  | [.int i], m, q => q (.int (if i < 0 then -i else i)) m
  | _, m, q => False
theorem cd_abs : CallR X (.builtin "abs") (lowC X.K gAbs) := crN call_abs fun H G m ds vs q Q hr hs hg hq => by
  unfold gAbs at hg
  split at hg
  · cases hr with
    | cons h r => cases r; cases h; exact ⟨_, rfl, hq.here hs (.int _) hg⟩
  · exact False.elim hg
def gInt : List D → Mem → QD → Prop
  | [.int i], m, q => q (.int i) m
  | [.bl b], m, q => q (.int (if b then 1 else 0)) m
  | [.str a], m, q => ∃ n, intText? ⟨a.toArray⟩ = some n ∧ a.length ≤ 640 ∧ q (.int n) m
  | _, m, q => False
theorem cd_int : CallR X (.type "int") (lowC X.K gInt) := crN (CallR.or call_int1 call_int_str) fun H G m ds vs q Q hr hs hg hq => by
  unfold gInt at hg
  split at hg
  · cases hr with
    | cons h r => cases r; cases h; exact .inl (.inl ⟨_, rfl, hq.here hs (.int _) hg⟩)
  · cases hr with
    | cons h r => cases r; cases h; exact .inl (.inr ⟨_, rfl, hq.here hs (.int _) hg⟩)
  · cases hr with
    | cons h r =>
      cases r; cases h
      obtain ⟨n, e, hz, k⟩ := hg
      exact .inr ⟨_, n, rfl, e, by rw [str_len]; exact hz, hq.here hs (.int _) k⟩
  · exact False.elim hg
/-- the signs of str(i) -/
def digs (i : Int) : List Nat := ((toString i : String) : Str).cps.toList
def gStr : List D → Mem → QD → Prop
  | [.int i], m, q => i.natAbs.log2 < 1920 ∧ q (.str (digs i)) m
  | _, m, q => False
theorem cd_str : CallR X (.type "str") (lowC X.K gStr) := crN call_str_int fun H G m ds vs q Q hr hs hg hq => by
  unfold gStr at hg
  split at hg
  · cases hr with
    | cons h r =>
      cases r; cases h
      refine ⟨_, rfl, hg.1, ?_⟩
      have := hq.here hs (Rep.str (digs _)) hg.2
      unfold digs at this
      rw [str_eta] at this
      exact this
  · exact False.elim hg
def gMax2 : List D → Mem → QD → Prop
  | [.int i, .int j], m, q => q (.int (if j > i then j else i)) m
  | _, m, q => False
theorem cd_max2 (hc : X.calm = true) : CallR X (.builtin "max") (lowC X.K gMax2) := crN (call_max2 hc) fun H G m ds vs q Q hr hs hg hq => by
  unfold gMax2 at hg
  split at hg
  · cases hr with
    | cons h r =>
      cases r with
      | cons h' r => cases r; cases h; cases h'; exact ⟨_, _, rfl, hq.here hs (.int _) hg⟩
  · exact False.elim hg
def gMin2 : List D → Mem → QD → Prop
  | [.int i, .int j], m, q => q (.int (if j < i then j else i)) m
  | _, m, q => False
theorem cd_min2 (hc : X.calm = true) : CallR X (.builtin "min") (lowC X.K gMin2) := crN (call_min2 hc) fun H G m ds vs q Q hr hs hg hq => by
  unfold gMin2 at hg
  split at hg
  · cases hr with
    | cons h r =>
      cases r with
      | cons h' r => cases r; cases h; cases h'; exact ⟨_, _, rfl, hq.here hs (.int _) hg⟩
  · exact False.elim hg
def bls : List D → Option (List Bool)
  | [] => some []
  | .bl b :: r => (bls r).map (b :: ·)
  | _ :: _ => none
theorem bls_ok : ∀ {ds : List D} {bs : List Bool}, bls ds = some bs → ds = bs.map D.bl
  | [], bs, h => by
    simp only [bls, Option.some.injEq] at h
    subst h
    rfl
  | .bl b :: r, bs, h => by
    simp only [bls, Option.map_eq_some_iff] at h
    obtain ⟨cs, e, rfl⟩ := h
    rw [bls_ok e]
    rfl
  | .non :: _, _, h => by simp [bls] at h
  | .int _ :: _, _, h => by simp [bls] at h
  | .str _ :: _, _, h => by simp [bls] at h
  | .ref _ :: _, _, h => by simp [bls] at h
  | .ty _ :: _, _, h => by simp [bls] at h
  | .tup _ :: _, _, h => by simp [bls] at h
  | .lst _ :: _, _, h => by simp [bls] at h
  | .scr _ :: _, _, h => by simp [bls] at h
  | .ins _ _ :: _, _, h => by simp [bls] at h
  | .exc _ _ _ _ _ :: _, _, h => by simp [bls] at h
  | .dct _ _ :: _, _, h => by simp [bls] at h
  | .fn _ _ _ _ _ _ :: _, _, h => by simp [bls] at h
theorem bls_map : ∀ bs : List Bool, bls (bs.map D.bl) = some bs
  | [] => rfl
  | b :: r => by rw [List.map_cons, bls, bls_map r]; rfl
def gAll : List D → Mem → QD → Prop
  | [x], m, q => ∃ ds bs, lstOf x m = some ds ∧ bls ds = some bs ∧ q (.bl (bs.all id)) m
  | _, m, q => False
def gAny : List D → Mem → QD → Prop
  | [x], m, q => ∃ ds bs, lstOf x m = some ds ∧ bls ds = some bs ∧ q (.bl (bs.any id)) m
  | _, m, q => False
theorem cd_all (hc : X.calm = true) : CallR X (.builtin "all") (lowC X.K gAll) := crN (cr_all hc) fun H G m ds vs q Q hr hs hg hq => by
  unfold gAll at hg
  split at hg
  · cases hr with
    | cons h r =>
      cases r
      obtain ⟨ds, bs, e1, e2, k⟩ := hg
      obtain ⟨p, vs, rfl, hp, ra⟩ := lst_at hs h e1
      rw [bls_ok e2] at ra
      have e3 := ra.bls
      subst e3
      exact ⟨p, bs, rfl, SqL.of hp, hq.here hs (.bl _) k⟩
  · exact False.elim hg
theorem cd_any (hc : X.calm = true) : CallR X (.builtin "any") (lowC X.K gAny) := crN (cr_any hc) fun H G m ds vs q Q hr hs hg hq => by
  unfold gAny at hg
  split at hg
  · cases hr with
    | cons h r =>
      cases r
      obtain ⟨ds, bs, e1, e2, k⟩ := hg
      obtain ⟨p, vs, rfl, hp, ra⟩ := lst_at hs h e1
      rw [bls_ok e2] at ra
      have e3 := ra.bls
      subst e3
      exact ⟨p, bs, rfl, SqL.of hp, hq.here hs (.bl _) k⟩
  · exact False.elim hg
/-- what list(x) and tuple(x) read -/
def seqOf : D → Mem → Option (List D)
  | .tup ds, _ => some ds
  | .scr ns, _ => some (ns.map D.int)
  | x, m => lstOf x m
theorem seq_at {K : PySem.W.Frag} {G H : Hp} {m : Mem} {x : D} {v : V} {ds : List D} (s : Sep K G m H) (r : Rep K G x v) (h : seqOf x m = some ds) : ∃ p vs, v = .ref p ∧ (SqL K H p vs ∨ SqT K H p vs) ∧ Reps K G ds vs := by
  have fall : ∀ {x : D} {v : V}, Rep K G x v → lstOf x m = some ds → ∃ p vs, v = .ref p ∧ (SqL K H p vs ∨ SqT K H p vs) ∧ Reps K G ds vs := fun {x v} h e => by
    obtain ⟨p, vs, rfl, hp, ra⟩ := lst_at s h e
    exact ⟨p, vs, rfl, .inl (SqL.of hp), ra⟩
  cases r with
  | tup e r =>
    simp only [seqOf, Option.some.injEq] at h
    subst h
    exact ⟨_, _, rfl, .inr (SqT.of (s.sub _ _ e)), r⟩
  | scr e =>
    simp only [seqOf, Option.some.injEq] at h
    subst h
    exact ⟨_, _, rfl, .inl (s.sub.seq e), Reps.ofInts _⟩
  | non => exact fall .non h
  | bl b => exact fall (.bl b) h
  | int i => exact fall (.int i) h
  | str a => exact fall (.str a) h
  | ref a => exact fall (.ref a) h
  | ty n => exact fall (.ty n) h
  | lst e r => exact fall (.lst e r) h
  | ins c e r => exact fall (.ins c e r) h
  | exc c e r => exact fall (.exc c e r) h
  | exc0 c => exact fall (.exc0 c) h
  | exv c e k r => exact fall (.exv c e k r) h
  | exv0 c e => exact fall (.exv0 c e) h
  | dK e r => exact fall (.dK e r) h
  | dT e z l n r => exact fall (.dT e z l n r) h
  | fn a b r0 => exact fall (.fn a b r0) h
/-- list(x): won't change; may change -/
def gList : List D → Mem → QD → Prop
  | [x], m, q => ∃ ds, seqOf x m = some ds ∧ q (.lst ds) m
  | _, m, q => False
def gListO : List D → Mem → QD → Prop
  | [x], m, q => ∃ ds, seqOf x m = some ds ∧ ∀ p, m p = none → q (.ref p) (mset m p (.lst ds))
  | _, m, q => False
theorem cd_list : CallR X (.type "list") (lowC X.K gList) := crN call_list_of fun H G m ds vs q Q hr hs hg hq => by
  unfold gList at hg
  split at hg
  · cases hr with
    | cons h r =>
      cases r
      obtain ⟨ds, e1, k⟩ := hg
      obtain ⟨p, vs, rfl, hp, ra⟩ := seq_at hs h e1
      refine ⟨p, vs, rfl, hp, fun l hl => ?_⟩
      obtain ⟨s2, e2⟩ := hs.laid hl (.lst vs)
      exact hq _ m _ _ _ e2 s2 (.lst upd_same (ra.mono e2)) k
  · exact False.elim hg
theorem cd_listO : CallR X (.type "list") (lowC X.K gListO) := crN call_list_of fun H G m ds vs q Q hr hs hg hq => by
  unfold gListO at hg
  split at hg
  · cases hr with
    | cons h r =>
      cases r
      obtain ⟨ds, e1, k⟩ := hg
      obtain ⟨p, vs, rfl, hp, ra⟩ := seq_at hs h e1
      exact ⟨p, vs, rfl, hp, fun l hl => hq _ _ _ _ _ (Same.refl _) (hs.alloc hl (.lst ra)) (.ref l) (k l (hs.freeM hl))⟩
  · exact False.elim hg
def gTuple : List D → Mem → QD → Prop
  | [.tup ds], m, q => q (.tup ds) m
  | [x], m, q => ∃ ds, lstOf x m = some ds ∧ q (.tup ds) m
  | _, m, q => False
theorem cd_tuple : CallR X (.type "tuple") (lowC X.K gTuple) := crN call_tuple_of fun H G m ds vs q Q hr hs hg hq => by
  cases hr with
  | nil => exact False.elim hg
  | cons h r =>
    cases r with
    | cons _ _ => simp only [gTuple] at hg
    | nil =>
      have fall : ∀ {x : D} {v : V}, Rep X.K G x v → (∃ ds, lstOf x m = some ds ∧ q (.tup ds) m) → ∃ p ys, [v] = [.ref p] ∧ ((SqL X.K H p ys ∧ ∀ l, H l = none → Q (.ref l) (upd H l (.tup ys))) ∨ (SqT X.K H p ys ∧ Q (.ref p) H)) := fun {x v} h ⟨ds, e, k⟩ => by
        obtain ⟨p, vs, rfl, hp, ra⟩ := lst_at hs h e
        refine ⟨p, vs, rfl, .inl ⟨SqL.of hp, fun l hl => ?_⟩⟩
        obtain ⟨s2, e2⟩ := hs.laid hl (.tup vs)
        exact hq _ m _ _ _ e2 s2 (.tup upd_same (ra.mono e2)) k
      cases h with
      | tup e r => exact ⟨_, _, rfl, .inr ⟨SqT.of (hs.sub _ _ e), hq.here hs (.tup e r) hg⟩⟩
      | str a => exact fall (.str a) hg
      | scr e => exact fall (.scr e) hg
      | non => exact fall .non hg
      | bl b => exact fall (.bl b) hg
      | int i => exact fall (.int i) hg
      | ref a => exact fall (.ref a) hg
      | ty n => exact fall (.ty n) hg
      | lst e r => exact fall (.lst e r) hg
      | ins c e r => exact fall (.ins c e r) hg
      | exc c e r => exact fall (.exc c e r) hg
      | exc0 c => exact fall (.exc0 c) hg
      | exv c e k r => exact fall (.exv c e k r) hg
      | exv0 c e => exact fall (.exv0 c e) hg
      | dK e r => exact fall (.dK e r) hg
      | dT e z l n r => exact fall (.dT e z l n r) hg
      | fn a b r0 => exact fall (.fn a b r0) hg

/-! ### methods -/
abbrev GM := D → List D → Mem → QD → Prop
def lowM (K : PySem.W.Frag) (g : GM) : V → List V → Hp → VK → Prop := fun x xs H Q => ∃ d ds m G q, Rep K G d x ∧ Reps K G ds xs ∧ Sep K G m H ∧ g d ds m q ∧ lowQ K G q Q
theorem mtN {id : String} {g : GM} {r : V → List V → Hp → VK → Prop} (h : MtR X id r) (i : ∀ (H G : Hp) (m : Mem) (d : D) (v : V) (ds : List D) (vs : List V) (q : QD) (Q : VK), Rep X.K G d v → Reps X.K G ds vs → Sep X.K G m H → g d ds m q → lowQ X.K G q Q → r v vs H Q) : MtR X id (lowM X.K g) := by
  intro pins s σ H x xs v us Q I rx rv ⟨d, ds, m, G, q, hd, hr, hs, hg, hq⟩
  exact h pins s σ H x xs v us Q I rx rv (i H G m d x ds xs q Q hd hr hs hg hq)
/-- o.name(args) of a list, of a text -/
def rLM (g : GM) (ro : RE) (ra : RA) : RE := fun xd n m q => ro xd n m fun x m1 => (∃ ds, lstOf x m1 = some ds) ∧ ra xd n m1 fun ds m2 => g x ds m2 q
def rSM (g : GM) (ro : RE) (ra : RA) : RE := fun xd n m q => ro xd n m fun x m1 => (∃ cs, x = .str cs) ∧ ra xd n m1 fun ds m2 => g x ds m2 q
variable {o e : Expr} {es : List Expr} {ro : RE} {ra : RA} {apos cpos : Pos} {name : Str} {id : String} {g : GM}
theorem de_lm (slot : Slot "list" name id) (hty : typeOf (.builtin id) = pure (.type "method_descriptor")) (hm : MtR X id (lowM X.K g)) (ho : DE X W o ro) (ha : DA X W (e :: es) ra)
    (hbase : attributeBase o name X.env (eval o X.env) = eval o X.env := by rfl)
    (hfew : ((backTo cpos (starEach (e :: es) X.env)).all (fun x => !x.1) && (backToKw cpos (keywordEach [] X.env)).all (fun x => x.1.isSome)
      && decide ((e :: es).length + ([] : List Keyword).length + (if ([] : List Keyword).isEmpty then 0 else 1) < 30)) = true := by rfl)
    (hline : (apos.endLine == cpos.line) = true := by rfl) (hs : starEach (e :: es) X.env = (false, eval e X.env) :: starEach es X.env := by rfl) (hplain : (backTo cpos (starEach es X.env)).any (·.1) = false := by rfl) :
    DE X W (.Call (.Attribute o name apos) (e :: es) [] cpos) (rLM g ro ra) :=
  PE.imp (pe_bm PySem.F.plainAttrs_list slot hty hm ho ha hbase hfew hline hs hplain) fun t H Q ⟨n, m, G, xd, q, hn, hs, hl, hr, hq⟩ =>
    ⟨n, m, G, xd, _, hn, hs, hl, hr, fun d m1 v G1 H1 e1 s1 r1 ⟨⟨ds, ed⟩, q1⟩ => ⟨by
      obtain ⟨p, vs, rfl, hp, _⟩ := lst_at s1 r1 ed
      exact .inl ⟨rfl, vs, SqL.of hp⟩, n, m1, G1, xd, _, hn.mono e1, s1, hl.mono e1, q1, fun ds m2 vs G2 H2 e2 s2 r2 q2 => ⟨d, ds, m2, G2, q, r1.mono e2, r2, s2, q2, fun d m' v G' H' e3 s3 r3 q3 => hq d m' v G' H' (e1.trans (e2.trans e3)) s3 r3 q3⟩⟩⟩
theorem de_lm0 (slot : Slot "list" name id) (hty : typeOf (.builtin id) = pure (.type "method_descriptor")) (hm : MtR X id (lowM X.K g)) (ho : DE X W o ro)
    (hbase : attributeBase o name X.env (eval o X.env) = eval o X.env := by rfl) (hline : (apos.endLine == cpos.line) = true := by rfl) : DE X W (.Call (.Attribute o name apos) [] [] cpos) (rLM g ro rNil) :=
  PE.imp (pe_bm0 PySem.F.plainAttrs_list slot hty hm ho hbase hline) fun t H Q ⟨n, m, G, xd, q, hn, hs, hl, hr, hq⟩ =>
    ⟨n, m, G, xd, _, hn, hs, hl, hr, fun d m1 v G1 H1 e1 s1 r1 ⟨⟨ds, ed⟩, q1⟩ => ⟨by
      obtain ⟨p, vs, rfl, hp, _⟩ := lst_at s1 r1 ed
      exact .inl ⟨rfl, vs, SqL.of hp⟩, ⟨d, [], m1, G1, q, r1, .nil, s1, q1, fun d m' v G' H' e3 s3 r3 q3 => hq d m' v G' H' (e1.trans e3) s3 r3 q3⟩⟩⟩
theorem de_sm (slot : Slot "str" name id) (hty : typeOf (.builtin id) = pure (.type "method_descriptor")) (hm : MtR X id (lowM X.K g)) (ho : DE X W o ro) (ha : DA X W (e :: es) ra)
    (hbase : attributeBase o name X.env (eval o X.env) = eval o X.env := by rfl)
    (hfew : ((backTo cpos (starEach (e :: es) X.env)).all (fun x => !x.1) && (backToKw cpos (keywordEach [] X.env)).all (fun x => x.1.isSome)
      && decide ((e :: es).length + ([] : List Keyword).length + (if ([] : List Keyword).isEmpty then 0 else 1) < 30)) = true := by rfl)
    (hline : (apos.endLine == cpos.line) = true := by rfl) (hs : starEach (e :: es) X.env = (false, eval e X.env) :: starEach es X.env := by rfl) (hplain : (backTo cpos (starEach es X.env)).any (·.1) = false := by rfl) :
    DE X W (.Call (.Attribute o name apos) (e :: es) [] cpos) (rSM g ro ra) :=
  PE.imp (pe_bm PySem.F.plainAttrs_str slot hty hm ho ha hbase hfew hline hs hplain) fun t H Q ⟨n, m, G, xd, q, hn, hs, hl, hr, hq⟩ =>
    ⟨n, m, G, xd, _, hn, hs, hl, hr, fun d m1 v G1 H1 e1 s1 r1 ⟨⟨ds, ed⟩, q1⟩ => ⟨by
      subst ed
      cases r1
      rfl, n, m1, G1, xd, _, hn.mono e1, s1, hl.mono e1, q1, fun ds m2 vs G2 H2 e2 s2 r2 q2 => ⟨d, ds, m2, G2, q, r1.mono e2, r2, s2, q2, fun d m' v G' H' e3 s3 r3 q3 => hq d m' v G' H' (e1.trans (e2.trans e3)) s3 r3 q3⟩⟩⟩
/-- an object of one's own, changed -/
def gAppend : GM := fun x ds m q => ∃ a xs y, x = .ref a ∧ ds = [y] ∧ m a = some (.lst xs) ∧ xs.length < sizeLine ∧ q .non (mset m a (.lst (xs ++ [y])))
theorem md_append : MtR X "list.append" (lowM X.K gAppend) := mtN mt_append fun H G m d v ds vs q Q hd hr hs hg hq => by
  obtain ⟨a, xs, y, rfl, rfl, e, hz, k⟩ := hg
  cases hd
  cases hr with
  | cons h r =>
    cases r
    obtain ⟨vs, e1, r1⟩ := hs.lst e
    exact ⟨a, vs, _, rfl, rfl, e1, by rw [← r1.length]; exact hz, hq .non _ .non G _ (Same.refl G) (hs.write e (.lst (r1.append (.cons h .nil)))) .non k⟩
def gPop : GM := fun x ds m q => ∃ a xs y, x = .ref a ∧ ds = [] ∧ m a = some (.lst xs) ∧ xs[xs.length - 1]? = some y ∧ q y (mset m a (.lst xs.dropLast))
theorem md_pop : MtR X "list.pop" (lowM X.K gPop) := mtN mt_pop fun H G m d v ds vs q Q hd hr hs hg hq => by
  obtain ⟨a, xs, y, rfl, rfl, e, hz, k⟩ := hg
  cases hd
  cases hr
  obtain ⟨vs, e1, r1⟩ := hs.lst e
  obtain ⟨v, e2, r2⟩ := r1.get hz
  exact ⟨a, vs, v, rfl, rfl, e1, by rw [← r1.length]; exact e2, hq y _ v G _ (Same.refl G) (hs.write e (.lst r1.dropLast)) r2 k⟩
def gPopAt : GM := fun x ds m q => ∃ a xs i k y, x = .ref a ∧ ds = [.int i] ∧ m a = some (.lst xs) ∧ -(2 ^ 63) ≤ i ∧ i < 2 ^ 63 ∧ seqIndex? i xs.length = some k ∧ xs[k]? = some y ∧ q y (mset m a (.lst (xs.eraseIdx k)))
theorem md_popAt : MtR X "list.pop" (lowM X.K gPopAt) := mtN mt_popAt fun H G m d v ds vs q Q hd hr hs hg hq => by
  obtain ⟨a, xs, i, j, y, rfl, rfl, e, h1, h2, h3, hz, k⟩ := hg
  cases hd
  cases hr with
  | cons h r =>
    cases r
    cases h
    obtain ⟨vs, e1, r1⟩ := hs.lst e
    obtain ⟨v, e2, r2⟩ := r1.get hz
    exact ⟨a, vs, i, j, v, rfl, rfl, e1, h1, h2, by rw [← r1.length]; exact h3, e2, hq y _ v G _ (Same.refl G) (hs.write e (.lst (r1.eraseIdx j))) r2 k⟩
def gClear : GM := fun x ds m q => ∃ a xs, x = .ref a ∧ ds = [] ∧ m a = some (.lst xs) ∧ q .non (mset m a (.lst []))
theorem md_clear : MtR X "list.clear" (lowM X.K gClear) := mtN mt_clear fun H G m d v ds vs q Q hd hr hs hg hq => by
  obtain ⟨a, xs, rfl, rfl, e, k⟩ := hg
  cases hd
  cases hr
  obtain ⟨vs, e1, r1⟩ := hs.lst e
  exact ⟨a, vs, rfl, rfl, e1, hq .non _ .non G _ (Same.refl G) (hs.write e (.lst .nil)) .non k⟩
def gReverse : GM := fun x ds m q => ∃ a xs, x = .ref a ∧ ds = [] ∧ m a = some (.lst xs) ∧ q .non (mset m a (.lst xs.reverse))
theorem md_reverse : MtR X "list.reverse" (lowM X.K gReverse) := mtN mt_reverse fun H G m d v ds vs q Q hd hr hs hg hq => by
  obtain ⟨a, xs, rfl, rfl, e, k⟩ := hg
  cases hd
  cases hr
  obtain ⟨vs, e1, r1⟩ := hs.lst e
  exact ⟨a, vs, rfl, rfl, e1, hq .non _ .non G _ (Same.refl G) (hs.write e (.lst r1.reverse)) .non k⟩
def gExtend : GM := fun x ds m q => ∃ a xs y zs, x = .ref a ∧ ds = [y] ∧ m a = some (.lst xs) ∧ lstOf y m = some zs ∧ xs.length + zs.length ≤ sizeLine ∧ q .non (mset m a (.lst (xs ++ zs)))
theorem md_extend : MtR X "list.extend" (lowM X.K gExtend) := mtN mt_extend fun H G m d v ds vs q Q hd hr hs hg hq => by
  obtain ⟨a, xs, y, zs, rfl, rfl, e, ez, hz, k⟩ := hg
  cases hd
  cases hr with
  | cons h r =>
    cases r
    obtain ⟨vs, e1, r1⟩ := hs.lst e
    obtain ⟨p, us, rfl, hp, r2⟩ := lst_at hs h ez
    exact ⟨a, p, vs, us, rfl, rfl, e1, hp, by rw [← r1.length, ← r2.length]; exact hz, hq .non _ .non G _ (Same.refl G) (hs.write e (.lst (r1.append r2))) .non k⟩
/-- texts -/
def txts : List D → Option (List (List Nat))
  | [] => some []
  | .str b :: r => (txts r).map (b :: ·)
  | _ :: _ => none
theorem strs_ok : ∀ {ds : List D} {bs : List (List Nat)}, txts ds = some bs → ds = bs.map D.str
  | [], bs, h => by
    simp only [txts, Option.some.injEq] at h
    subst h
    rfl
  | .str b :: r, bs, h => by
    simp only [txts, Option.map_eq_some_iff] at h
    obtain ⟨cs, e, rfl⟩ := h
    rw [strs_ok e]
    rfl
  | .non :: _, _, h => by simp [txts] at h
  | .int _ :: _, _, h => by simp [txts] at h
  | .bl _ :: _, _, h => by simp [txts] at h
  | .ref _ :: _, _, h => by simp [txts] at h
  | .ty _ :: _, _, h => by simp [txts] at h
  | .tup _ :: _, _, h => by simp [txts] at h
  | .lst _ :: _, _, h => by simp [txts] at h
  | .scr _ :: _, _, h => by simp [txts] at h
  | .ins _ _ :: _, _, h => by simp [txts] at h
  | .exc _ _ _ _ _ :: _, _, h => by simp [txts] at h
  | .dct _ _ :: _, _, h => by simp [txts] at h
  | .fn _ _ _ _ _ _ :: _, _, h => by simp [txts] at h
theorem strs_map : ∀ bs : List (List Nat), txts (bs.map D.str) = some bs
  | [] => rfl
  | b :: r => by rw [List.map_cons, txts, strs_map r]; rfl
abbrev ofC (a : List Nat) : Str := ⟨a.toArray⟩
def joinC (a : List Nat) (ys : List (List Nat)) : List Nat := (Txt.join (ofC a) (ys.map ofC)).cps.toList
def gJoin : GM := fun x ds m q => ∃ a y zs ys, x = .str a ∧ ds = [y] ∧ seqOf y m = some zs ∧ txts zs = some ys ∧ (ys.map (·.length)).sum + ys.length * a.length ≤ 16777216 ∧ q (.str (joinC a ys)) m
theorem md_join : MtR X "str.join" (lowM X.K gJoin) := mtN mt_join fun H G m d v ds vs q Q hd hr hs hg hq => by
  obtain ⟨a, y, zs, ys, rfl, rfl, e1, e2, hz, k⟩ := hg
  cases hd
  cases hr with
  | cons h r =>
    cases r
    obtain ⟨p, vs, rfl, hp, r2⟩ := seq_at hs h e1
    rw [strs_ok e2] at r2
    have e3 := r2.strs
    subst e3
    refine ⟨ofC a, p, ys.map ofC, rfl, rfl, ?_, ?_, ?_⟩
    · rw [List.map_map]
      exact hp
    · rw [List.map_map, List.length_map, str_len]
      have : (ys.map (Str.length ∘ ofC)) = ys.map (·.length) := List.map_congr_left fun z _ => str_len z
      have e4 : ys.map ((fun x => x.length) ∘ ofC) = ys.map (·.length) := this
      rw [e4]
      exact hz
    · have := hq.here hs (Rep.str (joinC a ys)) k
      unfold joinC at this
      rw [str_eta] at this
      exact this
def splitC (a b : List Nat) : List (List Nat) := (Txt.split (ofC a) (ofC b)).map fun z => z.cps.toList
def gSplit : GM := fun x ds m q => ∃ a b, x = .str a ∧ ds = [.str b] ∧ b ≠ [] ∧ a.length + 2 ≤ sizeLine ∧ q (.lst ((splitC a b).map D.str)) m
theorem Reps.ofStrs {K : PySem.W.Frag} {H : Hp} : ∀ (zs : List Str), Reps K H (zs.map fun z => D.str z.cps.toList) (zs.map V.str)
  | [] => .nil
  | z :: zs => .cons (by
    have := Rep.str (K := K) (H := H) z.cps.toList
    rw [str_eta] at this
    exact this) (Reps.ofStrs zs)
theorem md_split : MtR X "str.split" (lowM X.K gSplit) := mtN mt_split fun H G m d v ds vs q Q hd hr hs hg hq => by
  obtain ⟨a, b, rfl, rfl, hb, hz, k⟩ := hg
  cases hd
  cases hr with
  | cons h r =>
    cases r
    cases h
    refine ⟨ofC a, ofC b, rfl, rfl, ?_, by rw [str_len]; exact hz, fun l hl => ?_⟩
    · rw [str_len]
      cases b with
      | nil => exact absurd rfl hb
      | cons _ _ => rfl
    · obtain ⟨s2, e2⟩ := hs.laid hl (.lst ((Txt.split (ofC a) (ofC b)).map V.str))
      refine hq _ m _ _ _ e2 s2 (.lst upd_same ?_) k
      unfold splitC
      rw [List.map_map]
      exact Reps.ofStrs _

/-! ### places, slices -/
theorem atI_rep {K : PySem.W.Frag} {G : Hp} {ds : List D} {vs : List V} {i : Int} {d : D} (r : Reps K G ds vs) (h : atI ds i = some d) : ∃ v, atI vs i = some v ∧ Rep K G d v := by
  unfold atI at h ⊢
  rw [← r.length]
  cases e : ixN ds.length i with
  | none => rw [e] at h; cases h
  | some j =>
    rw [e] at h
    obtain ⟨v, e2, r2⟩ := r.get (show ds[j]? = some d from h)
    exact ⟨v, e2, r2⟩
def gIx : D → D → Mem → QD → Prop
  | .str a, .int i, m, q => a.length ≤ sizeLine ∧ ∃ c, atI a i = some c ∧ q (.str [c]) m
  | .tup ds, .int i, m, q => ∃ d, atI ds i = some d ∧ q d m
  | x, .int i, m, q => ∃ ds d, lstOf x m = some ds ∧ atI ds i = some d ∧ q d m
  | _, _, m, q => False
def lowIx (K : PySem.W.Frag) (g : G2) : R2 := low2 K g
theorem xd_ix : IxR X (low2 X.K gIx) := by
  intro value slice pins s σ H x y v u Q I rx ry ⟨dx, dy, m, G, q, hx, hy, hs, hg, hq⟩ he
  refine ix_seq value slice pins s σ H x y v u Q I rx ry ?_ he
  have fall : ∀ {dx : D} {x : V} {i : Int}, Rep X.K G dx x → (∃ ds d, lstOf dx m = some ds ∧ atI ds i = some d ∧ q d m) → rIx X.K x (.int i) H Q := fun {dx x i} h ⟨ds, d, e, e1, k⟩ => by
    obtain ⟨p, vs, rfl, hp, ra⟩ := lst_at hs h e
    obtain ⟨w, e2, r2⟩ := atI_rep ra e1
    exact .inl ⟨p, vs, i, w, rfl, rfl, SqL.of hp, e2, hq.here hs r2 k⟩
  cases dy with
  | int i =>
    cases hy
    cases dx with
    | str a =>
      cases hx
      obtain ⟨hz, c, e, k⟩ := hg
      exact .inr (.inr ⟨_, i, c, rfl, rfl, by rw [str_len]; exact hz, by simpa using e, hq.here hs (Rep.str [c]) k⟩)
    | tup ds =>
      cases hx with
      | tup e r =>
        obtain ⟨d, e1, k⟩ := hg
        obtain ⟨w, e2, r2⟩ := atI_rep r e1
        exact .inr (.inl ⟨_, _, i, w, rfl, rfl, SqT.of (hs.sub _ _ e), e2, hq.here hs r2 k⟩)
    | _ => exact fall hx hg
  | _ => cases dx <;> exact False.elim hg
variable {a b : Expr} {rb : RE} {pos p2 : Pos}
theorem de_ix {ra : RE} (ha : DE X W a ra) (hb : DE X W b rb) (hs : PlainIx b) : DE X W (.Subscript a b pos) (rOp gIx ra rb) := PE.imp (pe_ix xd_ix ha hb hs) lowOp
/-- a slice's end -/
abbrev RO := XD → Nv → Mem → (Option Int → Mem → Prop) → Prop
def lowO (K : PySem.W.Frag) (W : WX) (r : RO) : TO := fun t H Q => ∃ (n : Nv) (m : Mem) (G : Hp) (xd : XD) (q : Option Int → Mem → Prop), RepN K G n t ∧ Sep K G m H ∧ LinkX K W G xd ∧ r xd n m q ∧
  ∀ o m' G' H', Same G G' → Sep K G' m' H' → q o m' → Q o H'
def rNoPart : RO := fun _ _ m q => q none m
def rPart (r : RE) : RO := fun xd n m q => r xd n m fun d m1 => ∃ i, d = .int i ∧ q (some i) m1
theorem PO.imp {e : Option Expr} {t u : TO} (h : PO X e t) (i : ∀ s H Q, u s H Q → t s H Q) : PO X e u := ⟨fun pins s σ H Q I q => h.run pins s σ H Q I (i σ H Q q)⟩
theorem do_none : PO X none (lowO X.K W rNoPart) := PO.imp po_none fun t H Q ⟨n, m, G, xd, q, hn, hs, hl, hr, hq⟩ => hq none m G H (Same.refl G) hs hr
theorem do_some {r : RE} (h : DE X W e r) : PO X (some e) (lowO X.K W (rPart r)) := PO.imp (po_some h) fun t H Q ⟨n, m, G, xd, q, hn, hs, hl, hr, hq⟩ =>
  ⟨n, m, G, xd, _, hn, hs, hl, hr, fun d m1 v G1 H1 e1 s1 r1 ⟨i, e, q1⟩ => by
    subst e
    cases r1
    exact ⟨i, rfl, hq (some i) m1 G1 H1 e1 s1 q1⟩⟩
def cut {α : Type} (xs : List α) (lo hi : Option Int) : List α := (xs.drop (HT.sIx xs.length 0 lo)).take (HT.sIx xs.length xs.length hi - HT.sIx xs.length 0 lo)
theorem Reps.cut {K : PySem.W.Frag} {G : Hp} {ds : List D} {vs : List V} (r : Reps K G ds vs) (lo hi : Option Int) : Reps K G (DL.cut ds lo hi) (cutV vs lo hi) := by
  unfold DL.cut cutV
  rw [← r.length]
  exact (r.drop _).take _
def gSl : D → Option Int → Option Int → Mem → QD → Prop
  | .str a, lo, hi, m, q => a.length ≤ sizeLine ∧ q (.str (cut a lo hi)) m
  | .tup ds, lo, hi, m, q => ¬ (HT.sIx ds.length 0 lo = 0 ∧ HT.sIx ds.length ds.length hi = ds.length) ∧ q (.tup (cut ds lo hi)) m
  | x, lo, hi, m, q => ∃ ds, lstOf x m = some ds ∧ q (.lst (cut ds lo hi)) m
def lowSl (K : PySem.W.Frag) (g : D → Option Int → Option Int → Mem → QD → Prop) : V → Option Int → Option Int → Hp → VK → Prop := fun x lo hi H Q => ∃ d m G q, Rep K G d x ∧ Sep K G m H ∧ g d lo hi m q ∧ lowQ K G q Q
theorem sd_sl : SlR X (lowSl X.K gSl) := by
  intro pins s σ H x v vl vu lo hi sl Q I rx hsl pl pu ⟨d, m, G, q, hx, hs, hg, hq⟩
  refine SlR.or sl_list (SlR.or sl_tup sl_str) pins s σ H x v vl vu lo hi sl Q I rx hsl pl pu ?_
  have fall : ∀ {dx : D} {x : V}, Rep X.K G dx x → (∃ ds, lstOf dx m = some ds ∧ q (.lst (cut ds lo hi)) m) → rSlL X.K x lo hi H Q := fun {dx x} h ⟨ds, e, k⟩ => by
    obtain ⟨p, vs, rfl, hp, ra⟩ := lst_at hs h e
    refine ⟨p, vs, rfl, SqL.of hp, fun l hl => ?_⟩
    obtain ⟨s2, e2⟩ := hs.laid hl (.lst (cutV vs lo hi))
    exact hq _ m _ _ _ e2 s2 (.lst upd_same ((ra.cut lo hi).mono e2)) k
  cases hx with
  | str a =>
    refine .inr (.inr ⟨_, rfl, by rw [str_len]; exact hg.1, ?_⟩)
    have := hq.here hs (Rep.str _) hg.2
    unfold cut at this
    unfold cutS
    simpa [Str.length] using this
  | tup e r =>
    refine .inr (.inl ⟨_, _, rfl, SqT.of (hs.sub _ _ e), by rw [← r.length]; exact hg.1, fun l hl => ?_⟩)
    obtain ⟨s2, e2⟩ := hs.laid hl (.tup (cutV _ lo hi))
    exact hq _ m _ _ _ e2 s2 (.tup upd_same ((r.cut lo hi).mono e2)) hg.2
  | non => exact .inl (fall .non hg)
  | bl b => exact .inl (fall (.bl b) hg)
  | int i => exact .inl (fall (.int i) hg)
  | ref a => exact .inl (fall (.ref a) hg)
  | ty n => exact .inl (fall (.ty n) hg)
  | lst e r => exact .inl (fall (.lst e r) hg)
  | scr e => exact .inl (fall (.scr e) hg)
  | ins c e r => exact .inl (fall (.ins c e r) hg)
  | exc c e r => exact .inl (fall (.exc c e r) hg)
  | exc0 c => exact .inl (fall (.exc0 c) hg)
  | exv c e k r => exact .inl (fall (.exv c e k r) hg)
  | exv0 c e => exact .inl (fall (.exv0 c e) hg)
  | dK e r => exact .inl (fall (.dK e r) hg)
  | dT e z l n r => exact .inl (fall (.dT e z l n r) hg)
  | fn a b r0 => exact .inl (fall (.fn a b r0) hg)
def rSl (r : RE) (rl rh : RO) : RE := fun xd n m q => r xd n m fun x m1 => rl xd n m1 fun lo m2 => rh xd n m2 fun hi m3 => gSl x lo hi m3 q
theorem de_slice {r : RE} {lo hi : Option Expr} {rl rh : RO} (he : DE X W e r) (hl : PO X lo (lowO X.K W rl)) (hu : PO X hi (lowO X.K W rh)) : DE X W (.Subscript e (.Slice lo hi none p2) pos) (rSl r rl rh) :=
  PE.imp (pe_slice sd_sl he hl hu) fun t H Q ⟨n, m, G, xd, q, hn, hs, hl, hr, hq⟩ =>
    ⟨n, m, G, xd, _, hn, hs, hl, hr, fun d m1 v G1 H1 e1 s1 r1 q1 => ⟨n, m1, G1, xd, _, hn.mono e1, s1, hl.mono e1, q1, fun o1 m2 G2 H2 e2 s2 q2 =>
      ⟨n, m2, G2, xd, _, hn.mono (e1.trans e2), s2, hl.mono (e1.trans e2), q2, fun o2 m3 G3 H3 e3 s3 q3 => ⟨d, m3, G3, q, r1.mono (e2.trans e3), s3, q3, fun d m' v G' H' e4 s4 r4 q4 => hq d m' v G' H' (e1.trans (e2.trans (e3.trans e4))) s4 r4 q4⟩⟩⟩⟩
end
end DL

/-! DL5: statements, loops, comprehensions, calls of defs -/
namespace DL
open PySem PySem.Spec PyProof.Rows L2

/-! ### targets -/
inductive Tgt where
  | nm (i : Nat)
  | tp (js : List Nat)
def setAll : List Nat → List D → Nv → Nv
  | i :: js, d :: ds, n => setAll js ds (n.set i (some d))
  | _, _, n => n
def setT : Tgt → D → Nv → (Nv → Prop) → Prop
  | .nm i, d, n, k => k (n.set i (some d))
  | .tp js, d, n, k => ∃ ds, d = .tup ds ∧ ds.length = js.length ∧ k (setAll js ds n)
def gNames : List Nat → TGs
  | [] => gNil
  | i :: js => gCons (gName i) (gNames js)
def gT (K : PySem.W.Frag) : Tgt → TG
  | .nm i => gName i
  | .tp js => gTup K js.length (gNames js)
def setAllV : List Nat → List V → L2.St → L2.St
  | i :: js, d :: ds, n => setAllV js ds (n.set i (some d))
  | _, _, n => n
section
variable {K : PySem.W.Frag} {G H : Hp} {m : Mem}
theorem gNames_ok : ∀ (js : List Nat) (vs : List V) (t : L2.St) (H : Hp) (Q : L2.St → Hp → Prop), vs.length = js.length → Q (setAllV js vs t) H → gNames js vs t H Q
  | [], [], t, H, Q, _, q => ⟨rfl, q⟩
  | i :: js, v :: vs, t, H, Q, h, q => ⟨v, vs, rfl, gNames_ok js vs _ H Q (by simpa using h) q⟩
theorem setAll_rep : ∀ (js : List Nat) {ds : List D} {vs : List V} {n : Nv} {t : L2.St}, Reps K G ds vs → RepN K G n t → RepN K G (setAll js ds n) (setAllV js vs t)
  | [], _, _, _, _, _, r => by simpa [setAll, setAllV] using r
  | i :: js, _, _, _, _, .nil, r => by simpa [setAll, setAllV] using r
  | i :: js, _, _, _, _, .cons h q, r => by
    rw [setAll, setAllV]
    exact setAll_rep js q (r.set h i)
theorem setT_ok {T : Tgt} {d : D} {v : V} {n : Nv} {t : L2.St} {k : Nv → Prop} {Q : L2.St → Hp → Prop} (s : Sep K G m H) (r : Rep K G d v) (hn : RepN K G n t) (h : setT T d n k) (hk : ∀ n' t', RepN K G n' t' → k n' → Q t' H) : gT K T v t H Q := by
  cases T with
  | nm i => exact hk _ _ (hn.set r i) h
  | tp js =>
    obtain ⟨ds, rfl, hl, h⟩ := h
    cases r with
    | tup e r => exact ⟨_, _, rfl, SqT.of (s.sub _ _ e), by rw [← r.length]; exact hl, gNames_ok js _ t H Q (by rw [← r.length]; exact hl) (hk _ _ (setAll_rep js r hn) h)⟩
end
section
variable {X : Cx} {W : WX} {pos : Pos}
theorem dg_nm {i : Nat} {x : Str} (hN : X.N.Nodup) (hi : X.N[i]? = some x) (hx : Loc X.env.scope x) (hf : X.fn x = true ∨ X.env.scope.names.lookup x = some .local := by first | exact .inl rfl | exact .inr rfl | assumption) : PG X (.Name x pos) (gT X.K (.nm i)) := pg_name hN hi hx hf
theorem dg_tp {es : List Expr} {k : Nat} {js : List Nat} (hc : X.calm = true) (h : PGs X es (gNames js)) (hn : (assignEach es X.env).length = js.length := by rfl) (hst : (assignEach es X.env).findIdx? (·.1) = none := by rfl) : PG X (.Tuple es k pos) (gT X.K (.tp js)) := pg_tup hc h hn hst
theorem dgs_nil : PGs X [] (gNames []) := pgs_nil
theorem dgs_cons {i : Nat} {x : Str} {js : List Nat} {es : List Expr} (hN : X.N.Nodup) (hi : X.N[i]? = some x) (hx : Loc X.env.scope x) (h : PGs X es (gNames js))
    (hs : (assignEach (.Name x pos :: es) X.env).map (·.2) = assign (.Name x pos) X.env :: (assignEach es X.env).map (·.2) := by rfl) (hf : X.fn x = true ∨ X.env.scope.names.lookup x = some .local := by first | exact .inl rfl | exact .inr rfl | assumption) : PGs X (.Name x pos :: es) (gNames (i :: js)) := pgs_cons (pg_name hN hi hx hf) h hs

/-! ### statements -/
def rSkip : RS := fun _ e n m => e.nx n m
def rSeq (r u : RS) : RS := fun xd e n m => r xd { e with nx := u xd e } n m
def rSet (r : RE) (i : Nat) : RS := fun xd e n m => r xd n m fun d m1 => e.nx (n.set i (some d)) m1
def rAsg (r : RE) (T : Tgt) : RS := fun xd e n m => r xd n m fun d m1 => setT T d n fun n1 => e.nx n1 m1
def rRet (r : RE) : RS := fun xd e n m => r xd n m e.rt
def rRetN : RS := fun _ e _ m => e.rt .non m
def rDrop (r : RE) : RS := fun xd e n m => r xd n m fun _ m1 => e.nx n m1
def rIf (c : RT) (r u : RS) : RS := fun xd e n m => c xd n m fun b m1 => if b = true then r xd e n m1 else u xd e n m1
variable {st : Stmt} {rest : List Stmt} {r u : RS} {e : Expr} {re : RE}
theorem ds_nil : DSs X W [] rSkip := PSs.imp pss_nil fun D t H ⟨n, m, G, xd, e, hn, hs, hl, hr, L⟩ => L.nx n m t G H (Same.refl G) hs hn hr
theorem ds_cons (h1 : DS X W st r) (h2 : DSs X W rest u) : DSs X W (st :: rest) (rSeq r u) := PSs.imp (pss_cons h1 h2) fun D t H ⟨n, m, G, xd, e, hn, hs, hl, hr, L⟩ =>
  ⟨n, m, G, xd, _, hn, hs, hl, hr, ⟨fun n' m' t' G' H' e1 s1 r1 k => ⟨n', m', G', xd, e, r1, s1, hl.mono e1, k, L.mono e1⟩, L.rt, L.bk, L.ct⟩⟩
theorem ds_one (h1 : DS X W st r) : DSs X W [st] r := pss_one h1
theorem ds_pass : DS X W (.Pass pos) rSkip := PS.imp ps_pass fun D t H ⟨n, m, G, xd, e, hn, hs, hl, hr, L⟩ => L.nx n m t G H (Same.refl G) hs hn hr
def rBreak : RS := fun _ e n m => e.bk n m
def rCont : RS := fun _ e n m => e.ct n m
theorem ds_break : DS X W (.Break pos) rBreak := PS.imp ps_break fun D t H ⟨n, m, G, xd, e, hn, hs, hl, hr, L⟩ => L.bk n m t G H (Same.refl G) hs hn hr
theorem ds_cont : DS X W (.Continue pos) rCont := PS.imp ps_continue fun D t H ⟨n, m, G, xd, e, hn, hs, hl, hr, L⟩ => L.ct n m t G H (Same.refl G) hs hn hr
theorem ds_set {i : Nat} {x : Str} {pos' : Pos} (hN : X.N.Nodup) (hi : X.N[i]? = some x) (hx : Loc X.env.scope x) (he : DE X W e re) (hs : swapsWith e (some (.Name x pos')) pos.line X.env = pure false := by rfl) (hf : X.fn x = true ∨ X.env.scope.names.lookup x = some .local := by first | exact .inl rfl | exact .inr rfl | assumption) :
    DS X W (.Assign [.Name x pos'] e pos) (rSet re i) := PS.imp (ps_set hN hi hx he hs hf) fun D t H ⟨n, m, G, xd, e, hn, hs, hl, hr, L⟩ =>
  ⟨n, m, G, xd, _, hn, hs, hl, hr, fun d m1 v G1 H1 e1 s1 r1 k => L.nx _ m1 _ G1 H1 e1 s1 ((hn.mono e1).set r1 i) k⟩
theorem ds_asg {tg : Expr} {T : Tgt} (he : DE X W e re) (hg : PG X tg (gT X.K T)) (hs : swapsWithSole [tg] e pos.line X.env = pure false := by rfl) (hw : swappedStores [tg] e X.env = pure none := by rfl)
    (h1 : (assignEach [tg] X.env).map (·.2) = [assign tg X.env] := by rfl) : DS X W (.Assign [tg] e pos) (rAsg re T) := PS.imp (ps_asg he hg hs hw h1) fun D t H ⟨n, m, G, xd, e, hn, hs, hl, hr, L⟩ =>
  ⟨n, m, G, xd, _, hn, hs, hl, hr, fun d m1 v G1 H1 e1 s1 r1 k => setT_ok s1 r1 (hn.mono e1) k fun n' t' rn q => L.nx n' m1 t' G1 H1 e1 s1 rn q⟩
theorem ds_ret (he : DE X W e re) : DS X W (.Return (some e) pos) (rRet re) := PS.imp (ps_ret he) fun D t H ⟨n, m, G, xd, e, hn, hs, hl, hr, L⟩ =>
  ⟨n, m, G, xd, _, hn, hs, hl, hr, fun d m1 v G1 H1 e1 s1 r1 k => L.rt d m1 v G1 H1 e1 s1 r1 k⟩
theorem ds_retN : DS X W (.Return none pos) rRetN := PS.imp ps_retN fun D t H ⟨n, m, G, xd, e, hn, hs, hl, hr, L⟩ => L.rt .non m .non G H (Same.refl G) hs .non hr
theorem ds_expr (he : DE X W e re) (hs : swapsWith e none pos.line X.env = pure false := by rfl) : DS X W (.Expr e pos) (rDrop re) := PS.imp (ps_expr he hs) fun D t H ⟨n, m, G, xd, e, hn, hs, hl, hr, L⟩ =>
  ⟨n, m, G, xd, _, hn, hs, hl, hr, fun d m1 v G1 H1 e1 s1 r1 k => L.nx n m1 t G1 H1 e1 s1 (hn.mono e1) k⟩
theorem ds_doc {x j pos pos'} : DS X W (.Expr (.Constant (.str x) j pos) pos') rSkip := PS.imp ps_doc fun D t H ⟨n, m, G, xd, e, hn, hs, hl, hr, L⟩ => L.nx n m t G H (Same.refl G) hs hn hr
theorem ds_if {c : Expr} {a b : List Stmt} {rc : RT} (hc : DT X W c rc) (ha : DSs X W a r) (hb : DSs X W b u) : DS X W (.If c a b pos) (rIf rc r u) := PS.imp (ps_if hc ha hb) fun D t H ⟨n, m, G, xd, e, hn, hs, hl, hr, L⟩ =>
  ⟨n, m, G, xd, _, hn, hs, hl, hr, fun b m1 G1 H1 e1 s1 k => by
    cases b with
    | true => exact ⟨n, m1, G1, xd, e, hn.mono e1, s1, hl.mono e1, k, L.mono e1⟩
    | false => exact ⟨n, m1, G1, xd, e, hn.mono e1, s1, hl.mono e1, k, L.mono e1⟩⟩
/-- code that is never come to -/
def rNever : RS := fun _ _ _ _ => False
theorem ds_never : DS X W st rNever := PS.imp ps_never fun D t H ⟨n, m, G, xd, e, hn, hs, hl, hr, L⟩ => hr
/-- a statement behind which a word is said -/
def rCut (r u : RS) : RS := fun xd e n m => ∃ Mid : Nv → Mem → Prop, r xd { e with nx := Mid } n m ∧ ∀ n' m', Mid n' m' → u xd e n' m'
/-- xs[i] = v -/
def rSetIx (ro ri rv : RE) : RS := fun xd e n m => rv xd n m fun v m1 => ro xd n m1 fun o m2 => ri xd n m2 fun i m3 => ∃ a xs k j, o = .ref a ∧ i = .int k ∧ m3 a = some (.lst xs) ∧ ixN xs.length k = some j ∧ e.nx n (mset m3 a (.lst (xs.set j v)))
theorem ds_setIx {o i : Expr} {ro ri : RE} {pos' : Pos} (ho : DE X W o ro) (hi : DE X W i ri) (he : DE X W e re) (ha : ∀ v, assign (.Subscript o i pos') X.env v = (do
      let ov ← holding [v] (eval o X.env)
      let iv ← holding [v, ov] (eval i X.env)
      standAt pos'
      holding [v, ov, iv] (setItem ov iv v)
      release [v, ov, iv] []) := by intro _; rfl) (hs : swapsWithSole [.Subscript o i pos'] e pos.line X.env = pure false := by rfl) (hw : swappedStores [.Subscript o i pos'] e X.env = pure none := by rfl)
    (h1 : (assignEach [.Subscript o i pos'] X.env).map (·.2) = [assign (.Subscript o i pos') X.env] := by rfl) : DS X W (.Assign [.Subscript o i pos'] e pos) (rSetIx ro ri re) :=
  PS.imp (ps_asg he (pg_sub ho hi set_list ha) hs hw h1) fun D t H ⟨n, m, G, xd, e, hn, hs, hl, hr, L⟩ =>
    ⟨n, m, G, xd, _, hn, hs, hl, hr, fun d m1 v G1 H1 e1 s1 r1 k => ⟨n, m1, G1, xd, _, hn.mono e1, s1, hl.mono e1, k, fun d2 m2 v2 G2 H2 e2 s2 r2 k2 =>
      ⟨n, m2, G2, xd, _, hn.mono (e1.trans e2), s2, hl.mono (e1.trans e2), k2, fun d3 m3 v3 G3 H3 e3 s3 r3 ⟨a, xs, i, j, ea, ei, ma, hj, k3⟩ => by
        subst ea ei
        cases r2
        cases r3
        obtain ⟨vs, h1, r4⟩ := s3.lst ma
        exact ⟨a, vs, i, j, rfl, rfl, h1, by rw [← r4.length]; exact hj, L.nx n _ t G3 _ (e1.trans (e2.trans e3)) (s3.write ma (.lst (r4.set (r1.mono (e2.trans e3)) j))) (hn.mono (e1.trans (e2.trans e3))) k3⟩⟩⟩⟩
/-- name += e -/
def rAug (g : G2) (i : Nat) (r : RE) : RS := fun xd e n m => ∃ d, n[i]? = some (some d) ∧ r xd n m fun y m1 => g d y m1 fun z m2 => e.nx (n.set i (some z)) m2
theorem ds_aug {i : Nat} {x : Str} {op : Operator} {g : G2} {pos' : Pos} (hN : X.N.Nodup) (hi : X.N[i]? = some x) (hx : Loc X.env.scope x) (he : DE X W e re) (ho : OpR X (inplaceOp op) (low2 X.K g)) (hf : X.fn x = true ∨ X.env.scope.names.lookup x = some .local := by first | exact .inl rfl | exact .inr rfl | assumption) :
    DS X W (.AugAssign (.Name x pos') op e pos) (rAug g i re) := PS.imp (ps_aug (ti := low2 X.K g) hN hi hx he (fun pins s σ H x y v u Q I rx ry q => ho pins s σ H x y v u Q I rx ry q) hf) fun D t H ⟨n, m, G, xd, e, hn, hs, hl, hr, L⟩ => by
  obtain ⟨d, e0, hr⟩ := hr
  obtain ⟨v, e1, r1⟩ := hn.get e0
  exact ⟨v, e1, n, m, G, xd, _, hn, hs, hl, hr, fun y m1 w G1 H1 e2 s1 r2 k => ⟨d, y, m1, G1, _, r1.mono e2, r2, s1, k, fun z m2 v2 G2 H2 e3 s2 r3 k2 => L.nx _ m2 _ G2 H2 (e2.trans e3) s2 ((hn.mono (e2.trans e3)).set r3 i) k2⟩⟩
/-- += of ints and texts -/
def gIAdd : D → D → Mem → QD → Prop
  | .int i, .int j, m, q => q (.int (i + j)) m
  | .str a, .str b, m, q => a.length + b.length ≤ sizeLine ∧ q (.str (a ++ b)) m
  | _, _, m, q => False
theorem od_iadd : OpR X (inplaceOp .Add) (low2 X.K gIAdd) := opN fun pins s σ H G m dx dy x y v u q Q I rx ry hx hy hs hg hq => by
  cases dx with
  | int i =>
    cases dy with
    | int j =>
      cases hx; cases hy
      exact iop_add pins s σ H _ _ v u Q I rx ry ⟨i, j, rfl, rfl, hq.here hs (.int _) hg⟩
    | _ => exact False.elim hg
  | str a =>
    cases dy with
    | str b =>
      cases hx; cases hy
      exact iop_add_str pins s σ H _ _ v u Q I rx ry ⟨_, _, rfl, rfl, by rw [str_len, str_len]; exact hg.1, by rw [str_app]; exact hq.here hs (.str _) hg.2⟩
    | _ => exact False.elim hg
  | _ => cases dy <;> exact False.elim hg

/-! ### what is walked -/
structure Src (K : PySem.W.Frag) (G : Hp) (J : It) (ds : List D) : Prop where
  go : ∀ i H m G', Same G G' → Sep K G' m H → i < ds.length → J.go i H
  yld : ∀ i x H H' m G', Same G G' → Sep K G' m H → i < ds.length → J.yld i H x H' → ∃ G'' d, ds[i]? = some d ∧ Same G' G'' ∧ Sep K G'' m H' ∧ Rep K G'' d x
  stop : ∀ H m G', Same G G' → Sep K G' m H → J.stop ds.length H
abbrev RI := XD → Nv → Mem → (List D → Mem → Prop) → Prop
def lowI (K : PySem.W.Frag) (W : WX) (r : RI) : TI := fun t H R => ∃ (n : Nv) (m : Mem) (G : Hp) (xd : XD) (q : List D → Mem → Prop), RepN K G n t ∧ Sep K G m H ∧ LinkX K W G xd ∧ r xd n m q ∧
  ∀ ds m' G' H' J, Same G G' → Sep K G' m' H' → Src K G' J ds → q ds m' → R J H'
abbrev DI (X : Cx) (W : WX) (tg iter : Expr) (r : RI) : Prop := PI X tg iter (lowI X.K W r)
theorem PI.imp {tg e : Expr} {t u : TI} (h : PI X tg e t) (i : ∀ s H R, u s H R → t s H R) : PI X tg e u := ⟨fun pins s σ H R I q => h.run pins s σ H R I (i σ H R q)⟩
theorem src_list {K : PySem.W.Frag} {G : Hp} {a : Addr} {ds : List D} {vs : List V} (h : G a = some (.lst vs)) (r : Reps K G ds vs) : Src K G (Itl K a) ds where
  go := fun i H m G' e s hi => by
    obtain ⟨v, e1, _⟩ := r.get (List.getElem?_eq_getElem hi)
    exact ⟨vs, v, SqL.of (s.sub _ _ (e _ _ h)), e1⟩
  yld := fun i x H H' m G' e s hi y => by
    obtain ⟨rfl, y⟩ := y
    have e1 := y vs (SqL.of (s.sub _ _ (e _ _ h)))
    obtain ⟨d, e2, r2⟩ := r.getV e1
    exact ⟨G', d, e2, Same.refl _, s, r2.mono e⟩
  stop := fun H m G' e s => ⟨vs, SqL.of (s.sub _ _ (e _ _ h)), by rw [r.length]; exact Nat.le_refl _⟩
theorem src_tup {K : PySem.W.Frag} {G : Hp} {a : Addr} {ds : List D} {vs : List V} (h : G a = some (.tup vs)) (r : Reps K G ds vs) : Src K G (Itt K a) ds where
  go := fun i H m G' e s hi => by
    obtain ⟨v, e1, _⟩ := r.get (List.getElem?_eq_getElem hi)
    exact ⟨vs, v, SqT.of (s.sub _ _ (e _ _ h)), e1⟩
  yld := fun i x H H' m G' e s hi y => by
    obtain ⟨rfl, y⟩ := y
    have e1 := y vs (SqT.of (s.sub _ _ (e _ _ h)))
    obtain ⟨d, e2, r2⟩ := r.getV e1
    exact ⟨G', d, e2, Same.refl _, s, r2.mono e⟩
  stop := fun H m G' e s => ⟨vs, SqT.of (s.sub _ _ (e _ _ h)), by rw [r.length]; exact Nat.le_refl _⟩
def rngD (lo : Int) (n : Nat) : List D := (List.range n).map fun i => D.int (lo + (i : Nat))
theorem src_range {K : PySem.W.Frag} {G : Hp} {lo : Int} {n : Nat} : Src K G (Itr lo n) (rngD lo n) where
  go := fun i H m G' e s hi => by
    show i < n
    simpa [rngD] using hi
  yld := fun i x H H' m G' e s hi y => by
    obtain ⟨rfl, rfl⟩ := y
    have hi' : i < n := by simpa [rngD] using hi
    exact ⟨G', .int (lo + i), by simp [rngD, hi'], Same.refl _, s, .int _⟩
  stop := fun H m G' e s => by
    show n ≤ (rngD lo n).length
    simp [rngD]
def chars (a : List Nat) : List D := a.map fun c => D.str [c]
theorem src_str {K : PySem.W.Frag} {G : Hp} {a : List Nat} : Src K G (Its ⟨a.toArray⟩) (chars a) where
  go := fun i H m G' e s hi => by simpa [chars, Its] using hi
  yld := fun i x H H' m G' e s hi y => by
    obtain ⟨rfl, c, e1, rfl⟩ := y
    refine ⟨G', .str [c], ?_, Same.refl _, s, .str [c]⟩
    have : a[i]? = some c := by simpa using e1
    simp [chars, this]
  stop := fun H m G' e s => by
    show a.toArray.size ≤ (chars a).length
    simp [chars]
/-- for x in xs: a list that won't change, a tuple, a text; a list of one's own stays as it is from here on -/
def rIn (r : RE) : RI := fun xd n m q => r xd n m fun d m1 => match d with
  | .lst ds => q ds m1
  | .ref p => ∃ ds, m1 p = some (.lst ds) ∧ q ds (mdel m1 p)
  | _ => False
theorem di_list {tg : Expr} (h : DE X W e re) : DI X W tg e (rIn re) := PI.imp (pi_list h) fun t H R ⟨n, m, G, xd, q, hn, hs, hl, hr, hq⟩ =>
  ⟨n, m, G, xd, _, hn, hs, hl, hr, fun d m1 v G1 H1 e1 s1 r1 k => by
    cases r1 with
    | lst e r => exact ⟨_, rfl, ⟨_, SqL.of (s1.sub _ _ e)⟩, hq _ m1 G1 H1 _ e1 s1 (src_list e r) k⟩
    | ref p =>
      obtain ⟨ds, e, k⟩ := k
      obtain ⟨vs, h1, r1⟩ := s1.lst e
      obtain ⟨s2, e2⟩ := s1.freeze e h1
      exact ⟨_, rfl, ⟨vs, SqL.of h1⟩, hq ds _ _ H1 _ (e1.trans e2) s2 (src_list upd_same (r1.mono e2)) k⟩
    | _ => exact False.elim k⟩
def rInT (r : RE) : RI := fun xd n m q => r xd n m fun d m1 => match d with
  | .tup ds => q ds m1
  | _ => False
theorem di_tup {tg : Expr} (h : DE X W e re) : DI X W tg e (rInT re) := PI.imp (pi_tup h) fun t H R ⟨n, m, G, xd, q, hn, hs, hl, hr, hq⟩ =>
  ⟨n, m, G, xd, _, hn, hs, hl, hr, fun d m1 v G1 H1 e1 s1 r1 k => by
    cases r1 with
    | tup e r => exact ⟨_, rfl, ⟨_, SqT.of (s1.sub _ _ e)⟩, hq _ m1 G1 H1 _ e1 s1 (src_tup e r) k⟩
    | _ => exact False.elim k⟩
def rInS (r : RE) : RI := fun xd n m q => r xd n m fun d m1 => match d with
  | .str a => q (chars a) m1
  | _ => False
theorem di_str {tg : Expr} (h : DE X W e re) : DI X W tg e (rInS re) := PI.imp (pi_str h) fun t H R ⟨n, m, G, xd, q, hn, hs, hl, hr, hq⟩ =>
  ⟨n, m, G, xd, _, hn, hs, hl, hr, fun d m1 v G1 H1 e1 s1 r1 k => by
    cases r1 with
    | str a => exact ⟨_, rfl, hq _ m1 G1 H1 _ e1 s1 src_str k⟩
    | _ => exact False.elim k⟩
def rRng1 (r : RA) : RI := fun xd n m q => r xd n m fun ds m1 => ∃ j : Int, ds = [.int j] ∧ -(2 ^ 62) ≤ j ∧ j < 2 ^ 62 ∧ q (rngD 0 j.toNat) m1
theorem di_range1 {tg a : Expr} {p : Pos} {ra : RA} (hg : Gl X "range") (hm : X.mg "range" = none) (ha : DA X W [a] ra) (hs : starEach [a] X.env = [(false, eval a X.env)] := by rfl) : DI X W tg (.Call (.Name "range" p) [a] [] pos) (rRng1 ra) :=
  PI.imp (pi_range1 hg hm ha hs) fun t H R ⟨n, m, G, xd, q, hn, hs, hl, hr, hq⟩ =>
    ⟨n, m, G, xd, _, hn, hs, hl, hr, fun ds m1 vs G1 H1 e1 s1 r1 ⟨j, e, h1, h2, k⟩ => by
      subst e
      cases r1 with
      | cons h r => cases r; cases h; exact ⟨j, rfl, h1, h2, hq _ m1 G1 H1 _ e1 s1 src_range k⟩⟩
def rRng2 (r : RA) : RI := fun xd n m q => r xd n m fun ds m1 => ∃ i j : Int, ds = [.int i, .int j] ∧ (-(2 ^ 62) ≤ i ∧ i < 2 ^ 62 ∧ -(2 ^ 62) ≤ j ∧ j < 2 ^ 62) ∧ q (rngD i (j - i).toNat) m1
theorem di_range2 {tg a b : Expr} {p : Pos} {ra : RA} (hg : Gl X "range") (hm : X.mg "range" = none) (ha : DA X W [a, b] ra) (hs : starEach [a, b] X.env = [(false, eval a X.env), (false, eval b X.env)] := by rfl) (hs2 : starEach [b] X.env = [(false, eval b X.env)] := by rfl) :
    DI X W tg (.Call (.Name "range" p) [a, b] [] pos) (rRng2 ra) :=
  PI.imp (pi_range2 hg hm ha hs hs2) fun t H R ⟨n, m, G, xd, q, hn, hs, hl, hr, hq⟩ =>
    ⟨n, m, G, xd, _, hn, hs, hl, hr, fun ds m1 vs G1 H1 e1 s1 r1 ⟨i, j, e, h1, k⟩ => by
      subst e
      cases r1 with
      | cons h r =>
        cases r with
        | cons h' r => cases r; cases h; cases h'; exact ⟨i, j, rfl, h1, hq _ m1 G1 H1 _ e1 s1 src_range k⟩⟩

/-! ### for, while -/
def forD (T : Tgt) (b : RS) (xd : XD) : List D → EN → Nv → Mem → Prop
  | [], e, n, m => e.nx n m
  | x :: xs, e, n, m => setT T x n fun n1 => b xd ⟨forD T b xd xs e, e.rt, e.nx, forD T b xd xs e⟩ n1 m
def rFor (ri : RI) (T : Tgt) (b : RS) : RS := fun xd e n m => ri xd n m fun ds m1 => forD T b xd ds e n m1
theorem ds_for {tg iter : Expr} {body : List Stmt} {ri : RI} {T : Tgt} {rb : RS} (hp : PassesOwn (model X.prog X.w) X.A X.env X.xe) (hc : X.calm = true) (hi : DI X W tg iter ri) (hg : PG X tg (gT X.K T)) (hb : DSs X W body rb)
    (hs : ∀ x, foldedSetIterable iter X.env x = pure x := by intro _; rfl) : DS X W (.For tg iter body [] pos) (rFor ri T rb) :=
  PS.imp (ps_for hp hc hi hg hb hs) fun D t H ⟨n, m, G, xd, e, hn, hs, hl, hr, L⟩ =>
    ⟨n, m, G, xd, _, hn, hs, hl, hr, fun ds m1 G1 H1 J e1 s1 S k => by
      refine ⟨fun i k σ H => k = ds.length - i ∧ i ≤ ds.length ∧ ∃ n m G', Same G1 G' ∧ RepN X.K G' n σ ∧ Sep X.K G' m H ∧ forD T rb xd (ds.drop i) e n m, ⟨ds.length, by simp, Nat.zero_le _, n, m1, G1, Same.refl _, hn.mono e1, s1, k⟩, ?_⟩
      rintro i k σ H2 ⟨rfl, hi, n2, m2, G2, e2, hn2, s2, k2⟩
      by_cases hlt : i < ds.length
      · refine .inr ⟨S.go i H2 m2 G2 e2 s2 hlt, fun σ' H' => ∃ n m G', Same G1 G' ∧ RepN X.K G' n σ' ∧ Sep X.K G' m H' ∧ forD T rb xd (ds.drop (i + 1)) e n m, fun σ' H' h => ⟨ds.length - (i + 1), by omega, rfl, hlt, h⟩, fun x H' y => ?_⟩
        obtain ⟨G3, d, ed, e3, s3, r3⟩ := S.yld i x H2 H' m2 G2 e2 s2 hlt y
        rw [List.drop_eq_getElem_cons hlt] at k2
        have ed' : ds[i] = d := by
          rw [List.getElem?_eq_getElem hlt] at ed
          exact Option.some.inj ed
        rw [ed', forD] at k2
        refine setT_ok s3 r3 (hn2.mono e3) k2 fun n' t' rn q => ?_
        have e13 := e1.trans (e2.trans e3)
        exact ⟨n', m2, G3, xd, _, rn, s3, hl.mono e13, q, ⟨fun n4 m4 t4 G4 H4 e4 s4 r4 k4 => ⟨n4, m4, G4, e2.trans (e3.trans e4), r4, s4, k4⟩, fun d m v G' H' a => L.rt d m v G' H' (e13.trans a), fun n m t G' H' a => L.nx n m t G' H' (e13.trans a), fun n4 m4 t4 G4 H4 e4 s4 r4 k4 => ⟨n4, m4, G4, e2.trans (e3.trans e4), r4, s4, k4⟩⟩⟩
      · have e : i = ds.length := by omega
        subst e
        refine .inl ⟨S.stop H2 m2 G2 e2 s2, ?_⟩
        rw [List.drop_length, forD] at k2
        exact L.nx n2 m2 σ G2 H2 (e1.trans e2) s2 hn2 k2⟩
def rWhile (c : RT) (b : RS) : RS := fun xd e n m => ∃ Z : Nat → Nv → Mem → Prop, (∃ k, Z k n m) ∧ ∀ k n m, Z k n m →
  c xd n m fun t m1 => if t = true then ∃ N : Nv → Mem → Prop, (∀ n' m', N n' m' → ∃ k', k' < k ∧ Z k' n' m') ∧ b xd { e with nx := N, ct := N, bk := e.nx } n m1 else e.nx n m1
theorem ds_while {c : Expr} {body : List Stmt} {rc : RT} {rb : RS} (hp : PassesOwn (model X.prog X.w) X.A X.env X.xe) (hc : DT X W c rc) (hb : DSs X W body rb) : DS X W (.While c body [] pos) (rWhile rc rb) :=
  PS.imp (ps_while hp hc hb) fun D t H ⟨n, m, G, xd, e, hn, hs, hl, ⟨Z, ⟨k, z⟩, turn⟩, L⟩ => by
    refine ⟨fun k σ H => ∃ n m G', Same G G' ∧ RepN X.K G' n σ ∧ Sep X.K G' m H ∧ Z k n m, ⟨k, n, m, G, Same.refl _, hn, hs, z⟩, ?_⟩
    rintro k σ H2 ⟨n2, m2, G2, e2, hn2, s2, z2⟩
    refine ⟨n2, m2, G2, xd, _, hn2, s2, hl.mono e2, turn k n2 m2 z2, fun b m3 G3 H3 e3 s3 q => ?_⟩
    have e23 := e2.trans e3
    cases b with
    | true =>
      obtain ⟨N, hN, q⟩ := q
      refine ⟨fun σ' H' => ∃ n m G', Same G G' ∧ RepN X.K G' n σ' ∧ Sep X.K G' m H' ∧ N n m, fun σ' H' ⟨n', m', G', a, b, c, h⟩ => ?_, ?_⟩
      · obtain ⟨k', hk, z'⟩ := hN n' m' h
        exact ⟨k', hk, n', m', G', a, b, c, z'⟩
      · exact ⟨n2, m3, G3, xd, _, hn2.mono e3, s3, hl.mono e23, q, ⟨fun n4 m4 t4 G4 H4 e4 s4 r4 k4 => ⟨n4, m4, G4, e23.trans e4, r4, s4, k4⟩, fun d m v G' H' a => L.rt d m v G' H' (e23.trans a), fun n m t G' H' a => L.nx n m t G' H' (e23.trans a), fun n4 m4 t4 G4 H4 e4 s4 r4 k4 => ⟨n4, m4, G4, e23.trans e4, r4, s4, k4⟩⟩⟩
    | false => exact L.nx n2 m3 σ G3 H3 e23 s3 (hn2.mono e3) q

/-! ### comprehensions -/
def wipeN (n : Nv) : List Nat → Nv
  | [] => n
  | v :: vs => (wipeN n vs).set v none
theorem wipe_rep {K : PySem.W.Frag} {G : Hp} {n : Nv} {t : L2.St} (r : RepN K G n t) : ∀ vs : List Nat, RepN K G (wipeN n vs) (wipe t vs)
  | [] => r
  | v :: vs => RepN.unset v (wipe_rep r vs)
theorem wipe_get {t : L2.St} {i : Nat} : ∀ {vs : List Nat}, i ∈ vs → i < t.length → (wipe t vs)[i]? = some none
  | v :: vs, h, hl => by
    unfold wipe
    by_cases e : v = i
    · subst e
      rw [List.getElem?_set_self (by rw [wipe_length]; exact hl)]
    · rw [List.getElem?_set_ne e]
      have h' : i ∈ vs := by
        rcases List.mem_cons.mp h with z | z
        · exact absurd z.symm e
        · exact z
      exact wipe_get h' hl
theorem wipe_set {t : L2.St} {j : Nat} {v : Option V} {vs : List Nat} (h : j ∈ vs) : wipe (t.set j v) vs = wipe t vs := by
  apply List.ext_getElem?
  intro i
  by_cases hi : i ∈ vs
  · by_cases hl : i < t.length
    · rw [wipe_get hi (by simpa using hl), wipe_get hi hl]
    · rw [List.getElem?_eq_none (by rw [wipe_length]; simpa using hl), List.getElem?_eq_none (by rw [wipe_length]; simpa using hl)]
  · rw [wipe_out hi, wipe_out hi, List.getElem?_set_ne (fun e : j = i => hi (by rw [← e]; exact h))]
theorem wipe_wipe {t : L2.St} (vs : List Nat) : wipe (wipe t vs) vs = wipe t vs := by
  apply List.ext_getElem?
  intro i
  by_cases hi : i ∈ vs
  · by_cases hl : i < t.length
    · rw [wipe_get hi (by rw [wipe_length]; exact hl), wipe_get hi hl]
    · rw [List.getElem?_eq_none (by rw [wipe_length, wipe_length]; simpa using hl), List.getElem?_eq_none (by rw [wipe_length]; simpa using hl)]
  · rw [wipe_out hi]
theorem wipe_setAll {vs : List Nat} : ∀ (js : List Nat) (us : List V) (t : L2.St), (∀ j ∈ js, j ∈ vs) → wipe (setAllV js us t) vs = wipe t vs
  | [], us, t, _ => by simp [setAllV]
  | j :: js, [], t, _ => by simp [setAllV]
  | j :: js, u :: us, t, h => by
    rw [setAllV, wipe_setAll js us _ (fun k hk => h k (List.mem_cons_of_mem _ hk)), wipe_set (h j List.mem_cons_self)]
def Tgt.within : Tgt → List Nat → Bool
  | .nm i, vs => vs.contains i
  | .tp js, vs => js.all fun j => vs.contains j
theorem setT_okW {K : PySem.W.Frag} {G H : Hp} {m : Mem} {T : Tgt} {d : D} {v : V} {n : Nv} {t : L2.St} {vs : List Nat} {k : Nv → Prop} {Q : L2.St → Hp → Prop} (s : Sep K G m H) (r : Rep K G d v) (hn : RepN K G n t) (h : setT T d n k) (hw : T.within vs = true)
    (hk : ∀ n' t', RepN K G n' t' → wipe t' vs = wipe t vs → k n' → Q t' H) : gT K T v t H Q := by
  cases T with
  | nm i =>
    have hi : i ∈ vs := by simpa [Tgt.within] using hw
    exact hk _ _ (hn.set r i) (wipe_set hi) h
  | tp js =>
    have hi : ∀ j ∈ js, j ∈ vs := by simpa [Tgt.within] using hw
    obtain ⟨ds, rfl, hl, h⟩ := h
    cases r with
    | tup e r => exact ⟨_, _, rfl, SqT.of (s.sub _ _ e), by rw [← r.length]; exact hl, gNames_ok js _ t H Q (by rw [← r.length]; exact hl) (hk _ _ (setAll_rep js r hn) (wipe_setAll js _ t hi) h)⟩
abbrev W0 : WX := fun _ _ _ _ => False
abbrev xd0 : XD := fun _ _ _ _ => False
/-- the turns of a comprehension; P: where its list grows -/
def compD (T : Tgt) (tt : RT) (te : RE) (n : Nv) (P : Addr) (k : Mem → Prop) : List D → Mem → Prop
  | [], m => k m
  | x :: xs, m => setT T x n fun n2 => tt xd0 n2 m fun b m1 => if b = true then te xd0 n2 m1 fun d m2 => ∃ acc, m2 P = some (.lst acc) ∧ acc.length < sizeLine ∧ compD T tt te n P k xs (mset m2 P (.lst (acc ++ [d]))) else compD T tt te n P k xs m1
/-- [..]: won't change; may change -/
def rLc (ri : RI) (T : Tgt) (tt : RT) (te : RE) (vs : List Nat) : RE := fun xd n m q => ri xd n m fun ds m1 => ∀ P, m1 P = none → compD T tt te (wipeN n vs) P (fun m2 => ∃ acc, m2 P = some (.lst acc) ∧ q (.lst acc) (mdel m2 P)) ds (mset m1 P (.lst []))
def rLcO (ri : RI) (T : Tgt) (tt : RT) (te : RE) (vs : List Nat) : RE := fun xd n m q => ri xd n m fun ds m1 => ∀ P, m1 P = none → compD T tt te (wipeN n vs) P (fun m2 => q (.ref P) m2) ds (mset m1 P (.lst []))
theorem link0 {K : PySem.W.Frag} {G : Hp} : LinkX K W0 G xd0 := fun _ _ _ _ _ _ _ _ _ _ _ _ _ h => h
/-- the tests of a clause -/
def rYes : RT := fun _ _ m q => q true m
theorem lc_low {ri : RI} {T : Tgt} {tt : RT} {te : RE} {vs : List Nat} {kk : Addr → Mem → Prop} {Q : VK} {t : L2.St} {H : Hp} (hw : T.within vs = true) {n : Nv} {m : Mem} {G : Hp} {xd : XD} (hn : RepN X.K G n t) (hs : Sep X.K G m H) (hl : LinkX X.K W G xd)
    (hr : ri xd n m fun ds m1 => ∀ P, m1 P = none → compD T tt te (wipeN n vs) P (kk P) ds (mset m1 P (.lst [])))
    (hq : ∀ P m2 G2 H2, Same G G2 → Sep X.K G2 m2 H2 → kk P m2 → Q (.ref P) H2) :
    tLc (lowI X.K W ri) (gT X.K T) (lowT X.K W0 tt) (lowE X.K W0 te) vs t H Q := by
  refine ⟨n, m, G, xd, _, hn, hs, hl, hr, fun ds m1 G1 H1 J e1 s1 S k P hP => ?_⟩
  refine ⟨fun i z H => z = ds.length - i ∧ i ≤ ds.length ∧ ∃ m G', Same G1 G' ∧ Sep X.K G' m H ∧ compD T tt te (wipeN n vs) P (kk P) (ds.drop i) m, ⟨ds.length, by simp, Nat.zero_le _, _, G1, Same.refl _, s1.alloc hP (.lst .nil), k P (s1.freeM hP)⟩, ?_⟩
  rintro i z H2 ⟨rfl, hi, m2, G2, e2, s2, k2⟩
  by_cases hlt : i < ds.length
  · refine .inr ⟨S.go i H2 m2 G2 e2 s2 hlt, fun H' => ∃ m G', Same G1 G' ∧ Sep X.K G' m H' ∧ compD T tt te (wipeN n vs) P (kk P) (ds.drop (i + 1)) m, fun H' h => ⟨ds.length - (i + 1), by omega, rfl, hlt, h⟩, fun x H' y => ?_⟩
    obtain ⟨G3, d, ed, e3, s3, r3⟩ := S.yld i x H2 H' m2 G2 e2 s2 hlt y
    rw [List.drop_eq_getElem_cons hlt] at k2
    have ed' : ds[i] = d := by
      rw [List.getElem?_eq_getElem hlt] at ed
      exact Option.some.inj ed
    rw [ed', compD] at k2
    have e13 := e1.trans (e2.trans e3)
    refine setT_okW s3 r3 (wipe_rep (hn.mono e13) vs) k2 hw fun n' t' rn ew q => ⟨by rw [ew, wipe_wipe], ?_⟩
    refine ⟨n', m2, G3, xd0, _, rn, s3, link0, q, fun b m4 G4 H4 e4 s4 q4 => ?_⟩
    cases b with
    | true =>
      refine ⟨n', m4, G4, xd0, _, rn.mono e4, s4, link0, q4, fun d m5 v G5 H5 e5 s5 r5 ⟨acc, ma, hz, q5⟩ => ?_⟩
      obtain ⟨us, h1, r6⟩ := s5.lst ma
      exact ⟨us, h1, by rw [← r6.length]; exact hz, _, G5, e2.trans (e3.trans (e4.trans e5)), s5.write ma (.lst (r6.append (.cons r5 .nil))), q5⟩
    | false => exact ⟨m4, G4, e2.trans (e3.trans e4), s4, q4⟩
  · have e : i = ds.length := by omega
    subst e
    refine .inl ⟨S.stop H2 m2 G2 e2 s2, ?_⟩
    rw [List.drop_length, compD] at k2
    exact hq P m2 G2 H2 (e1.trans e2) s2 k2
abbrev DTs (X : Cx) (W : WX) (ifs : List Expr) (r : RT) : Prop := PTs X ifs (lowT X.K W r)
theorem PTs.imp {es : List Expr} {t u : TT} (h : PTs X es t) (i : ∀ s H Q, u s H Q → t s H Q) : PTs X es u := ⟨fun pins s σ H Q I q => h.run pins s σ H Q I (i σ H Q q)⟩
theorem dts_nil : DTs X W [] rYes := PTs.imp pts_nil fun t H Q ⟨n, m, G, xd, q, hn, hs, hl, hr, hq⟩ => hq true m G H (Same.refl G) hs hr
theorem dts_one {c : Expr} {rt : RT} (h : DT X W c rt) : DTs X W [c] rt := pts_one h
section
variable {elt tg iter : Expr} {ifs : List Expr} {scope : Scope} {own : List (Str × Nat)} {ri : RI} {T : Tgt} {tt : RT} {te : RE}
theorem frz_end {K : PySem.W.Frag} {G : Hp} {q : QD} {Q : VK} (hq : ∀ d m' v G' H', Same G G' → Sep K G' m' H' → Rep K G' d v → q d m' → Q v H') : ∀ P m2 G2 H2, Same G G2 → Sep K G2 m2 H2 → (∃ acc, m2 P = some (.lst acc) ∧ q (.lst acc) (mdel m2 P)) → Q (.ref P) H2 := fun P m2 G2 H2 e2 s2 ⟨acc, ma, k⟩ => by
  obtain ⟨us, h1, r1⟩ := s2.lst ma
  obtain ⟨s3, e3⟩ := s2.freeze ma h1
  exact hq _ _ _ _ H2 (e2.trans e3) s3 (.lst upd_same (r1.mono e3)) k
theorem own_end {K : PySem.W.Frag} {G : Hp} {q : QD} {Q : VK} (hq : ∀ d m' v G' H', Same G G' → Sep K G' m' H' → Rep K G' d v → q d m' → Q v H') : ∀ P m2 G2 H2, Same G G2 → Sep K G2 m2 H2 → q (.ref P) m2 → Q (.ref P) H2 := fun P m2 G2 H2 e2 s2 k => hq _ m2 _ G2 H2 e2 s2 (.ref P) k
theorem de_lc {vs : List Nat} (hc : X.calm = true) (hN : X.N.Nodup) (hi : DI X W tg iter ri) (ok : BlkOk X.N X.env.scope scope own) (hv : own.map (·.2) = vs) (hw : T.within vs = true)
    (hg : ∀ (s : Shared) (H : Hp) (C : Addr) (cl : List (Str × Addr)) (fp : List Addr), PG (X.blk s H scope (compEnvC scope cl C X.env) fp) tg (gT X.K T)) (ht : ∀ (s : Shared) (H : Hp) (C : Addr) (cl : List (Str × Addr)) (fp : List Addr), DTs (X.blk s H scope (compEnvC scope cl C X.env) fp) W0 ifs tt)
    (he : ∀ (s : Shared) (H : Hp) (C : Addr) (cl : List (Str × Addr)) (fp : List Addr), DE (X.blk s H scope (compEnvC scope cl C X.env) fp) W0 elt te) (hs : ∀ x, foldedSetIterable iter X.env x = pure x := by intro _; rfl) :
    DE X W (.ListComp elt [⟨tg, iter, ifs, 0⟩] scope pos) (rLc ri T tt te vs) := by
  subst hv
  exact PE.imp (pe_lc hc hN hi ok hg ht he hs) fun t H Q ⟨n, m, G, xd, q, hn, hs, hl, hr, hq⟩ =>
    lc_low hw hn hs hl hr (frz_end hq)
theorem de_lcO {vs : List Nat} (hc : X.calm = true) (hN : X.N.Nodup) (hi : DI X W tg iter ri) (ok : BlkOk X.N X.env.scope scope own) (hv : own.map (·.2) = vs) (hw : T.within vs = true)
    (hg : ∀ (s : Shared) (H : Hp) (C : Addr) (cl : List (Str × Addr)) (fp : List Addr), PG (X.blk s H scope (compEnvC scope cl C X.env) fp) tg (gT X.K T)) (ht : ∀ (s : Shared) (H : Hp) (C : Addr) (cl : List (Str × Addr)) (fp : List Addr), DTs (X.blk s H scope (compEnvC scope cl C X.env) fp) W0 ifs tt)
    (he : ∀ (s : Shared) (H : Hp) (C : Addr) (cl : List (Str × Addr)) (fp : List Addr), DE (X.blk s H scope (compEnvC scope cl C X.env) fp) W0 elt te) (hs : ∀ x, foldedSetIterable iter X.env x = pure x := by intro _; rfl) :
    DE X W (.ListComp elt [⟨tg, iter, ifs, 0⟩] scope pos) (rLcO ri T tt te vs) := by
  subst hv
  exact PE.imp (pe_lc hc hN hi ok hg ht he hs) fun t H Q ⟨n, m, G, xd, q, hn, hs, hl, hr, hq⟩ =>
    lc_low hw hn hs hl hr (own_end hq)
/-- y = [..] on one line -/
theorem ds_setLc {vs : List Nat} {i : Nat} {y : Str} {py spos : Pos} (hc : X.calm = true) (hN : X.N.Nodup) (hy : X.N[i]? = some y) (hyl : X.env.scope.names.lookup y = some .local)
    (hsw : swapsWith (.ListComp elt [⟨tg, iter, ifs, 0⟩] scope pos) (some (.Name y py)) spos.line X.env = pure true) (hi : DI X W tg iter ri) (ok : BlkOk X.N X.env.scope scope own) (hv : own.map (·.2) = vs) (hw : T.within vs = true)
    (hg : ∀ (s : Shared) (H : Hp) (C : Addr) (cl : List (Str × Addr)) (fp : List Addr), PG (X.blk s H scope (compEnvC scope cl C X.env) fp) tg (gT X.K T)) (ht : ∀ (s : Shared) (H : Hp) (C : Addr) (cl : List (Str × Addr)) (fp : List Addr), DTs (X.blk s H scope (compEnvC scope cl C X.env) fp) W0 ifs tt)
    (he : ∀ (s : Shared) (H : Hp) (C : Addr) (cl : List (Str × Addr)) (fp : List Addr), DE (X.blk s H scope (compEnvC scope cl C X.env) fp) W0 elt te) (hs : ∀ x, foldedSetIterable iter X.env x = pure x := by intro _; rfl) :
    DS X W (.Assign [.Name y py] (.ListComp elt [⟨tg, iter, ifs, 0⟩] scope pos) spos) (rSet (rLc ri T tt te vs) i) := by
  subst hv
  exact PS.imp (ps_setLc hc hN hy hyl hsw hi ok hg ht he hs) fun D t H ⟨n, m, G, xd, e, hn, hs, hl, hr, L⟩ =>
    lc_low hw hn hs hl hr (frz_end (q := fun d m1 => e.nx (n.set i (some d)) m1) fun d m1 v G1 H1 e1 s1 r1 k => L.nx _ m1 _ G1 H1 e1 s1 ((hn.mono e1).set r1 i) k)
theorem ds_setLcO {vs : List Nat} {i : Nat} {y : Str} {py spos : Pos} (hc : X.calm = true) (hN : X.N.Nodup) (hy : X.N[i]? = some y) (hyl : X.env.scope.names.lookup y = some .local)
    (hsw : swapsWith (.ListComp elt [⟨tg, iter, ifs, 0⟩] scope pos) (some (.Name y py)) spos.line X.env = pure true) (hi : DI X W tg iter ri) (ok : BlkOk X.N X.env.scope scope own) (hv : own.map (·.2) = vs) (hw : T.within vs = true)
    (hg : ∀ (s : Shared) (H : Hp) (C : Addr) (cl : List (Str × Addr)) (fp : List Addr), PG (X.blk s H scope (compEnvC scope cl C X.env) fp) tg (gT X.K T)) (ht : ∀ (s : Shared) (H : Hp) (C : Addr) (cl : List (Str × Addr)) (fp : List Addr), DTs (X.blk s H scope (compEnvC scope cl C X.env) fp) W0 ifs tt)
    (he : ∀ (s : Shared) (H : Hp) (C : Addr) (cl : List (Str × Addr)) (fp : List Addr), DE (X.blk s H scope (compEnvC scope cl C X.env) fp) W0 elt te) (hs : ∀ x, foldedSetIterable iter X.env x = pure x := by intro _; rfl) :
    DS X W (.Assign [.Name y py] (.ListComp elt [⟨tg, iter, ifs, 0⟩] scope pos) spos) (rSet (rLcO ri T tt te vs) i) := by
  subst hv
  exact PS.imp (ps_setLc hc hN hy hyl hsw hi ok hg ht he hs) fun D t H ⟨n, m, G, xd, e, hn, hs, hl, hr, L⟩ =>
    lc_low hw hn hs hl hr (own_end (q := fun d m1 => e.nx (n.set i (some d)) m1) fun d m1 v G1 H1 e1 s1 r1 k => L.nx _ m1 _ G1 H1 e1 s1 ((hn.mono e1).set r1 i) k)
end

/-! ### defs -/
abbrev SpD := List D → Mem → QD → XF → Prop
def LinkF (K : PySem.W.Frag) (E : XK) (G : Hp) (xf : XF) : Prop := ∀ (nm : Str) (c : Value) (fs : List (Str × D)) (o : Option Addr) (m : Mem) (G' H' : Hp), Same G G' → Sep K G' m H' → RepX K G' nm c fs o → xf nm fs m → E c o H'
def lowSp (K : PySem.W.Frag) (sp : SpD) : Sp := fun vs H Q E => ∃ (ds : List D) (m : Mem) (G : Hp) (q : QD) (xf : XF), Reps K G ds vs ∧ Sep K G m H ∧ sp ds m q xf ∧ lowQ K G q Q ∧ LinkF K E G xf
abbrev FnD (P : Program) (w : World) (K : PySem.W.Frag) (mg : Str → Option Value) (base : Heap) (k : Nat) (f : Addr) (fd : FuncData) (ps : List Str) (sp : SpD) : Prop := FnOk P w K mg base (L2.CX P w) k f fd ps (lowSp K sp)
def rCall (sp : SpD) (r : RA) : RE := fun xd n m q => r xd n m fun ds m1 => sp ds m1 q fun c fs m' => xd c fs n m'
/-- what a call lets out is taken -/
abbrev Pas (X : Cx) (W : WX) : Prop := ∀ σ, PassesAt (L2.CX X.prog X.w) X σ (WE W σ)
theorem pas0 : Pas X W0 := fun σ pins H s e s' I c => by
  obtain ⟨_, _, _, _, _, _, _, _, _, _, _, _, z⟩ := c
  exact z.elim
theorem lowCall {sp : SpD} {ra : RA} : ∀ t H Q, lowE X.K W (rCall sp ra) t H Q → tCallSD (lowSp X.K sp) [] (WE W) (lowA X.K W ra) t H Q := fun t H Q ⟨n, m, G, xd, q, hn, hs, hl, hr, hq⟩ =>
  ⟨n, m, G, xd, _, hn, hs, hl, hr, fun ds m1 vs G1 H1 e1 s1 r1 k => ⟨ds, m1, G1, q, _, by rw [List.append_nil]; exact r1, s1, k, fun d m' v G' H' e2 s2 r2 q2 => hq d m' v G' H' (e1.trans e2) s2 r2 q2, fun nm c fs o m' G' H' e2 s2 r2 q2 => hl nm c fs o n m' t G' H' (e1.trans e2) s2 (hn.mono (e1.trans e2)) r2 q2⟩⟩
theorem de_call {k : Nat} {f : Addr} {fd : FuncData} {ps : List Str} {sp : SpD} {x : Str} {p : Pos} {e : Expr} {es : List Expr} {ra : RA} (F : FnD X.prog X.w X.K X.mg X.base k f fd ps sp) (hr : Room k X.A) (hg : Gl X x) (hm : X.mg x = some (.ref f)) (hk : PySem.W.keepIn X.K (.ref f) = true) (hb : Binds X.K fd ps []) (hx : Pas X W)
    (ha : DA X W (e :: es) ra) (hdb : (x == ("__debug__" : Str)) = false := by decide) (he : starEach (e :: es) X.env = (false, eval e X.env) :: starEach es X.env := by rfl) (hpl : (backTo pos (starEach es X.env)).any (·.1) = false := by rfl) :
    DE X W (.Call (.Name x p) (e :: es) [] pos) (rCall sp ra) := PE.imp (pe_callSD (E := WE W) F hr hg hm hk hb .nil hx ha hdb he hpl) lowCall
end
section
variable {P : Program} {w : World} {K : PySem.W.Frag} {mg : Str → Option Value} {base : Heap}
/-- the names at a def's start -/
def nvs (N : List Str) (ds : List D) : Nv := ds.map some ++ List.replicate (N.length - ds.length) none
abbrev WF (E : XK) : WX := fun c d _ H => E c d H
/-- THE RULE for a def -/
theorem fnD {x qual : Str} {st : Stmt} {f : Addr} {fd : FuncData} {N ps : List Str} {k : Nat} {sp : SpD} (F : Fun K x qual st f fd) (S : FnScope N ps (defScope st)) (len : ∀ ds m q xf, sp ds m q xf → ds.length = ps.length)
    (hbody : ∀ (cdv : Value) (A : Around) (outer : List Env) (s : Shared) (H : Hp) (E : XK), Room k (A.deeper (envOfC qual (defScope st) s.heap.objs.size f cdv)) →
      ∃ r, DSs (cxOf (L2.CX P w) P w K mg base N qual (defScope st) f cdv A outer s H E) (WF E) (defBody st) r ∧ ∀ ds m q xf, sp ds m q xf → r (fun c fs _ m' => xf c fs m') { nx := fun _ m' => q .non m', rt := q } (nvs N ds) m) : FnD P w K mg base (k + 1) f fd ps sp := by
  refine F.okX S (fun vs H Q E ⟨ds, m, G, q, xf, hr, hs, h, _⟩ => by rw [← hr.length]; exact len ds m q xf h) fun cdv A outer s H vs Q E hr ⟨ds, m, G, q, xf, rs, hs, h, hq, hx⟩ => ?_
  obtain ⟨r, hd, hv⟩ := hbody cdv A outer s H E hr
  refine ⟨_, hd, _, m, G, _, _, ?_, hs, ?_, hv ds m q xf h, ?_⟩
  · unfold nvs L2.start
    rw [← rs.length]
    exact RepN.start _ rs
  · exact fun nm c fs o _ m' t G' H' e1 s1 _ r1 k => hx nm c fs o m' G' H' e1 s1 r1 k
  · exact ⟨fun n m' t G' H' e1 s1 _ k => hq .non m' .non G' H' e1 s1 .non k, fun d m' v G' H' e1 s1 r1 k => hq d m' v G' H' e1 s1 r1 k, fun _ _ _ _ _ _ _ _ k => k.elim, fun _ _ _ _ _ _ _ _ k => k.elim⟩
end
end DL

/-! DL6: list(text), isinstance, what is walked, calls by name -/
namespace DL
open PySem PySem.Spec PyProof.Rows L2
section
variable {prog : Program} {w : World} {A : Around} {E : Value → Shared → Prop} {s : Shared}
theorem hint_str {x : Str} {t : Tok} {Q : Bool → Shared → Prop} (h : Q false s) : wpAny (model prog w) A (Builtin.List.listLengthHint (.str x t)) Q E s := by
  have hT : s.TypeIs (.str x t) "str" := typeIs_str s x t
  unfold Builtin.List.listLengthHint
  refine wpAny_bind (wpAny_specialOf hT PySem.F.slot_str_len.lookup ?_)
  generalize hid : ("str.__len__" : String) = id0
  wp_delta
  rw [show splitId id0 = some ("str", "__len__") from by subst hid; decide +kernel]
  subst hid
  refine wpAny_bind (wpAny_isInstance (T := "str") (b := true) hT (by rw [isSubtype_type]; kernel_rfl) ?_)
  refine wpAny_ite_split (fun hab => absurd hab (by decide)) (fun _ => ?_)
  refine wpAny_ite_split (fun _ => ?_) (fun hab => absurd (by decide +kernel) hab)
  refine wpAny_bind (wpAny_typeOf hT ?_)
  exact wpAny_pure h
theorem text_extend {R : Result → Shared → Prop} {x : Str} {t : Tok} (hh : A.handled = none) (S : Addr) (res : Value) (c₀ : Nat) (hS : s.heap.get? S = some { cls := .type "list", data := .seq #[] c₀ })
    (hR : ∀ h' tk acc' c', (∀ b o, b ≠ S → s.heap.get? b = some o → h'.get? b = some o) → h'.get? S = some { cls := .type "list", dict := none, data := .seq acc' c', slots := #[] } → ItemsOf (SignAt x) acc' x.cps.size → R (.ok (.ret res)) { s with heap := h', toks := tk }) (hn : x.cps.size ≤ sizeLine) :
    wpAny (model prog w) A.in1 (Builtin.List.listExtendWith (.ref S) (.str x t) res)
      (fun fin s' => match fin with | .done f => R (.ok f) s' | .again c' => c'.quiet = true ∧ codeAny (model prog w) A c' R s') (fun e s' => R (.error e) s') s := by
  have hSI : S ≠ s.heap.objs.size := Nat.ne_of_lt (Heap.lt_size hS)
  have hSf : S ∉ [s.heap.objs.size] := by simpa using hSI
  have key : ∀ (St : Nat → Heap → Prop) (W : Walks prog w A.in1 s.heap.objs.size [s.heap.objs.size] [s.heap.objs.size] x.cps.size (SignAt x) St) (h : Heap) (c₁ tk : Nat), St 0 h → (∀ b o, b ≠ S → s.heap.get? b = some o → h.get? b = some o) →
      h.get? S = some { cls := .type "list", data := .seq #[] c₁ } → codeAny (model prog w) A (.builtin "list.extend.loop" ⟨[.ref S, .ref s.heap.objs.size, res], []⟩) R { s with heap := h, toks := tk } := by
    intro St W h c₁ tk hst hk hS₁
    refine codeAny_extend_loopS W.toS hn S hSf res x.cps.size 0 _ #[] c₁ rfl (Nat.zero_le _) hst hS₁ (ItemsOf.nil _) fun s' acc' c' hm hS' hacc => ?_
    rw [Moved.eq_with hm]
    refine hR s'.heap s'.toks acc' c' (fun b o hb e => hm.heap b o (fun hmem => ?_) (hk b o hb e)) hS' hacc
    rcases List.mem_cons.mp hmem with e' | hmem
    · exact hb e'
    · exact absurd (Heap.lt_size e) (by rw [List.mem_singleton.mp hmem]; exact Nat.lt_irrefl _)
  unfold Builtin.List.listExtendWith
  refine wpAny_bind (wpAny_typeOf (T := "str") (typeIs_str s x t) ?_)
  have h1 : Builtin.List.listSameRef (.ref S) (.str x t) = false := rfl
  have h2 : (Value.type "str" == Value.type "list") = false := by decide +kernel
  have h3 : (Value.type "str" == Value.type "tuple") = false := by decide +kernel
  simp only [h1, h2, h3, Bool.or_false, Bool.false_eq_true, if_false]
  refine wpAny_bind (wpAny_pyIter_str fun oI St W st => ?_)
  have W1 := W A.in1 hh
  have hS₁ := Heap.get?_push_of_some oI hS
  refine wpAny_bind (wpAny_holding (hint_str ?_))
  refine wpAny_ite_split (fun _ => ?_) (fun _ => wpAny_pure ⟨plainId_quiet PySem.F.plain_extend_loop _, key St W1 _ c₀ _ st (fun b o _ e => Heap.get?_push_of_some _ e) hS₁⟩)
  refine wpAny_bind (wpAny_rule ?_)
  refine wpAny_bind ?_
  show wpAny _ _ (updateSeq S (·.push .none) >>= fun _ => updateSeq S (·.pop)) _ _ _
  refine wpAny_bind (wpAny_updateSeq hS₁ rfl ?_)
  have hS₂ := Heap.get?_update_self (Obj.mapSeq (·.push Value.none)) hS₁ rfl
  refine wpAny_updateSeq (hz := by seq_fits) hS₂ rfl ?_
  have hS₃ := Heap.get?_update_self (Obj.mapSeq (·.pop)) hS₂ rfl
  refine wpAny_pure ⟨plainId_quiet PySem.F.plain_extend_loop _, key St W1 _ _ _ ?_ (fun b o hb e => ?_) hS₃⟩
  · refine W1.frame 0 _ _ st fun b hb o e => ?_
    have hbS : b ≠ S := fun h => hSf (h ▸ hb)
    exact (Heap.get?_update_other _ _ (Ne.symm hbS)).trans ((Heap.get?_update_other _ _ (Ne.symm hbS)).trans e)
  · exact (Heap.get?_update_other _ _ (Ne.symm hb)).trans ((Heap.get?_update_other _ _ (Ne.symm hb)).trans (Heap.get?_push_of_some _ e))
theorem call_list_text {x : Str} {t : Tok} {Q : Value → Shared → Prop} (hh : A.handled = none) (hn : x.cps.size ≤ sizeLine)
    (hQ : ∀ h' tk acc' c', (∀ b o, s.heap.get? b = some o → h'.get? b = some o) → h'.get? s.heap.objs.size = some { cls := .type "list", dict := none, data := .seq acc' c', slots := #[] } → ItemsOf (SignAt x) acc' x.cps.size → Q (.ref s.heap.objs.size) { s with heap := h', toks := tk }) :
    wpAny (model prog w) A (call (.type "list") [.str x t]) Q E s := by
  refine callType_codes (Q₁ := fun obj s₁ => obj = .ref s.heap.objs.size ∧ s₁ = { s with heap := s.heap.push { cls := .type "list", data := .seq #[] } }) PySem.F.called_list (PySem.F.typeCall_list_1 _) PySem.F.entry_list_init
    (code_list_new _ ⟨rfl, rfl⟩) fun obj s₁ h₁ => ?_
  obtain ⟨rfl, rfl⟩ := h₁
  have hS : (s.heap.push { cls := .type "list", data := .seq #[] }).get? s.heap.objs.size = some { cls := .type "list", data := .seq #[] } := Heap.get?_push_size _ rfl
  refine ⟨⟨_, hS, rfl⟩, PySem.F.args_list_init_2 _ _, ?_⟩
  show wpAny _ _ (do let old ← Builtin.List.listItems (.ref s.heap.objs.size); Builtin.List.listUpdate (.ref s.heap.objs.size) (fun _ => #[]); letGo old.toList.reverse; Builtin.List.listExtendWith (.ref s.heap.objs.size) (.str x t) .none) _ _ _
  refine wpAny_bind ?_
  unfold Builtin.List.listItems
  refine wpAny_bind (wpAny_seqItems hS rfl (wpAny_pure ?_))
  show wpAny _ _ (updateSeq s.heap.objs.size (fun _ => #[]) >>= fun _ => letGo (#[] : Array Value).toList.reverse >>= fun _ => Builtin.List.listExtendWith (.ref s.heap.objs.size) (.str x t) .none) _ _ _
  refine wpAny_bind (wpAny_updateSeq hS rfl ?_)
  have hS₂ := Heap.get?_update_self (Obj.mapSeq (fun _ => (#[] : Array Value))) hS rfl
  refine wpAny_bind (wpAny_letGo ?_)
  refine text_extend (A := A.in1) hh _ .none _ hS₂ (fun h' tk acc' c' hk hS' hacc => ?_) hn
  refine ⟨rfl, hQ h' tk acc' c' (fun b o e => ?_) hS' hacc⟩
  have ne : b ≠ s.heap.objs.size := Nat.ne_of_lt (Heap.lt_size e)
  exact hk b o ne ((Heap.get?_update_other _ _ (Ne.symm ne)).trans (Heap.get?_push_of_some _ e))
end
section
variable {X : Cx} {W : WX} {pos : Pos}
theorem vals_signs {x : Str} {acc : Array Value} (h : ItemsOf (SignAt x) acc x.cps.size) : Vals (x.cps.toList.map fun c => V.str ⟨#[c]⟩) acc.toList := by
  obtain ⟨hz, hi⟩ := h
  have key : ∀ (cs : List Nat) (us : List Value), cs.length = us.length → (∀ (j : Nat) u, us[j]? = some u → ∃ c tk, cs[j]? = some c ∧ u = .str ⟨#[c]⟩ tk) → Vals (cs.map fun c => V.str ⟨#[c]⟩) us := by
    intro cs
    induction cs with
    | nil =>
      intro us hl _
      cases us with
      | nil => exact .nil
      | cons _ _ => cases hl
    | cons c cs ih =>
      intro us hl hu
      cases us with
      | nil => cases hl
      | cons u us =>
        refine .cons ?_ (ih us (by simpa using hl) fun j u' e => ?_)
        · obtain ⟨c', tk, e1, e2⟩ := hu 0 u rfl
          simp at e1
          subst e1
          exact ⟨tk, e2⟩
        · obtain ⟨c', tk, e1, e2⟩ := hu (j + 1) u' (by simpa using e)
          exact ⟨c', tk, by simpa using e1, e2⟩
  refine key _ _ (by simp [hz]) fun j u e => ?_
  obtain ⟨c, tk, e1, e2⟩ := hi j u (by simpa using e)
  exact ⟨c, tk, by simpa using e1, e2⟩
theorem cr_listText (hc : X.calm = true) : CallR X (.type "list") (fun xs H Q => ∃ z : Str, xs = [.str z] ∧ z.length ≤ sizeLine ∧ ∀ l, H l = none → Q (.ref l) (upd H l (.lst (z.cps.toList.map fun c => V.str ⟨#[c]⟩)))) := by
  intro pins s σ H xs us Q I r h
  obtain ⟨z, rfl, hz, q⟩ := h
  obtain ⟨u, rfl, t, rfl⟩ := vals1 r
  refine call_list_text (I.ok.hd hc) hz fun h' tk acc c hk hS hacc => ?_
  have hn : H s.heap.objs.size = none := I.hok.fresh (Nat.le_refl _)
  have hv := vals_signs hacc
  have new : ObjOk X.prog X.w (upd H s.heap.objs.size (.lst (z.cps.toList.map fun c => V.str ⟨#[c]⟩))) h' s.heap.objs.size (.lst (z.cps.toList.map fun c => V.str ⟨#[c]⟩)) := by
    refine ⟨?_, acc.toList, c, hv, ?_⟩
    · rw [List.length_map]
      exact hz
    · simpa using hS
  exact ⟨.ref s.heap.objs.size, _, I.laid hk (Nat.le_refl _) new, rfl, q _ hn⟩
/-- list(x): also of a text -/
def gListA : List D → Mem → QD → Prop
  | [.str a], m, q => a.length ≤ sizeLine ∧ q (.lst (chars a)) m
  | [x], m, q => ∃ ds, seqOf x m = some ds ∧ q (.lst ds) m
  | _, m, q => False
def gListAO : List D → Mem → QD → Prop
  | [.str a], m, q => a.length ≤ sizeLine ∧ ∀ p, m p = none → q (.ref p) (mset m p (.lst (chars a)))
  | [x], m, q => ∃ ds, seqOf x m = some ds ∧ ∀ p, m p = none → q (.ref p) (mset m p (.lst ds))
  | _, m, q => False
theorem Reps.chars {K : PySem.W.Frag} {G : Hp} : ∀ a : List Nat, Reps K G (DL.chars a) (a.map fun c => V.str ⟨#[c]⟩)
  | [] => .nil
  | c :: a => .cons (.str [c]) (Reps.chars a)
theorem cd_listA (hc : X.calm = true) : CallR X (.type "list") (lowC X.K gListA) := crN (CallR.or (cr_listText hc) call_list_of) fun H G m ds vs q Q hr hs hg hq => by
  cases hr with
  | nil => exact False.elim hg
  | cons h r =>
    cases r with
    | cons _ _ => simp only [gListA] at hg
    | nil =>
      have fall : ∀ {x : D} {v : V}, Rep X.K G x v → (∃ ds, seqOf x m = some ds ∧ q (.lst ds) m) → ∃ p ys, [v] = [.ref p] ∧ (SqL X.K H p ys ∨ SqT X.K H p ys) ∧ ∀ l, H l = none → Q (.ref l) (upd H l (.lst ys)) := fun {x v} h ⟨ds, e1, k⟩ => by
        obtain ⟨p, vs, rfl, hp, ra⟩ := seq_at hs h e1
        refine ⟨p, vs, rfl, hp, fun l hl => ?_⟩
        obtain ⟨s2, e2⟩ := hs.laid hl (.lst vs)
        exact hq _ m _ _ _ e2 s2 (.lst upd_same (ra.mono e2)) k
      cases h with
      | str a =>
        refine .inl ⟨_, rfl, by rw [str_len]; exact hg.1, fun l hl => ?_⟩
        obtain ⟨s2, e2⟩ := hs.laid hl (.lst ((⟨a.toArray⟩ : Str).cps.toList.map fun c => V.str ⟨#[c]⟩))
        exact hq _ m _ _ _ e2 s2 (.lst upd_same (by simpa using (Reps.chars (K := X.K) a))) hg.2
      | tup e r => exact .inr (fall (.tup e r) hg)
      | scr e => exact .inr (fall (.scr e) hg)
      | non => exact .inr (fall .non hg)
      | bl b => exact .inr (fall (.bl b) hg)
      | int i => exact .inr (fall (.int i) hg)
      | ref a => exact .inr (fall (.ref a) hg)
      | ty n => exact .inr (fall (.ty n) hg)
      | lst e r => exact .inr (fall (.lst e r) hg)
      | ins c e r => exact .inr (fall (.ins c e r) hg)
      | exc c e r => exact .inr (fall (.exc c e r) hg)
      | exc0 c => exact .inr (fall (.exc0 c) hg)
      | exv c e k r => exact .inr (fall (.exv c e k r) hg)
      | exv0 c e => exact .inr (fall (.exv0 c e) hg)
      | dK e r => exact .inr (fall (.dK e r) hg)
      | dT e z l n r => exact .inr (fall (.dT e z l n r) hg)
      | fn a b r0 => exact .inr (fall (.fn a b r0) hg)
theorem cd_listAO (hc : X.calm = true) : CallR X (.type "list") (lowC X.K gListAO) := crN (CallR.or (cr_listText hc) call_list_of) fun H G m ds vs q Q hr hs hg hq => by
  cases hr with
  | nil => exact False.elim hg
  | cons h r =>
    cases r with
    | cons _ _ => simp only [gListAO] at hg
    | nil =>
      have fall : ∀ {x : D} {v : V}, Rep X.K G x v → (∃ ds, seqOf x m = some ds ∧ ∀ p, m p = none → q (.ref p) (mset m p (.lst ds))) → ∃ p ys, [v] = [.ref p] ∧ (SqL X.K H p ys ∨ SqT X.K H p ys) ∧ ∀ l, H l = none → Q (.ref l) (upd H l (.lst ys)) := fun {x v} h ⟨ds, e1, k⟩ => by
        obtain ⟨p, vs, rfl, hp, ra⟩ := seq_at hs h e1
        exact ⟨p, vs, rfl, hp, fun l hl => hq _ _ _ _ _ (Same.refl _) (hs.alloc hl (.lst ra)) (.ref l) (k l (hs.freeM hl))⟩
      cases h with
      | str a => exact .inl ⟨_, rfl, by rw [str_len]; exact hg.1, fun l hl => hq _ _ _ _ _ (Same.refl _) (hs.alloc hl (.lst (by simpa using (Reps.chars (K := X.K) a)))) (.ref l) (hg.2 l (hs.freeM hl))⟩
      | tup e r => exact .inr (fall (.tup e r) hg)
      | scr e => exact .inr (fall (.scr e) hg)
      | non => exact .inr (fall .non hg)
      | bl b => exact .inr (fall (.bl b) hg)
      | int i => exact .inr (fall (.int i) hg)
      | ref a => exact .inr (fall (.ref a) hg)
      | ty n => exact .inr (fall (.ty n) hg)
      | lst e r => exact .inr (fall (.lst e r) hg)
      | ins c e r => exact .inr (fall (.ins c e r) hg)
      | exc c e r => exact .inr (fall (.exc c e r) hg)
      | exc0 c => exact .inr (fall (.exc0 c) hg)
      | exv c e k r => exact .inr (fall (.exv c e k r) hg)
      | exv0 c e => exact .inr (fall (.exv0 c e) hg)
      | dK e r => exact .inr (fall (.dK e r) hg)
      | dT e z l n r => exact .inr (fall (.dT e z l n r) hg)
      | fn a b r0 => exact .inr (fall (.fn a b r0) hg)

/-! ### isinstance with a built-in class -/
def tyL : Option (List D) → Option String
  | some _ => some "list"
  | none => none
def tyD : D → Mem → Option String
  | .non, _ => some "NoneType"
  | .bl _, _ => some "bool"
  | .int _, _ => some "int"
  | .str _, _ => some "str"
  | .tup _, _ => some "tuple"
  | .dct t _, _ => if t = true then none else some "dict"
  | x, m => tyL (lstOf x m)
def isTy (a T : String) : Bool := a == T || (a == "bool" && T == "int")
theorem kitB_ok : ∀ a ∈ ["NoneType", "bool", "int", "str", "tuple", "list", "dict"], ∀ T ∈ ["str", "int", "bool", "list", "tuple", "dict"], kitB a T = some (isTy a T) := by decide +kernel
def gIsi : List D → Mem → QD → Prop
  | [x, .ty T], m, q => ∃ a, tyD x m = some a ∧ T ∈ ["str", "int", "bool", "list", "tuple", "dict"] ∧ q (.bl (isTy a T)) m
  | _, m, q => False
theorem tyD_ok {K : PySem.W.Frag} {G H : Hp} {m : Mem} {x : D} {v : V} {a : String} (s : Sep K G m H) (r : Rep K G x v) (h : tyD x m = some a) : TyX K H v (.type a) ∧ a ∈ ["NoneType", "bool", "int", "str", "tuple", "list", "dict"] := by
  have fall : ∀ {x : D} {v : V}, Rep K G x v → tyL (lstOf x m) = some a → TyX K H v (.type a) ∧ a ∈ ["NoneType", "bool", "int", "str", "tuple", "list", "dict"] := fun {x v} r h => by
    cases e : lstOf x m with
    | some ds =>
      rw [e] at h
      cases h
      obtain ⟨p, vs, rfl, hp, _⟩ := lst_at s r e
      exact ⟨.base (.lst hp), by decide⟩
    | none => rw [e] at h; cases h
  cases r with
  | non => cases h; exact ⟨.base .non, by decide⟩
  | bl b => cases h; exact ⟨.base (.bl b), by decide⟩
  | int i => cases h; exact ⟨.base (.int i), by decide⟩
  | str c => cases h; exact ⟨.base (.str _), by decide⟩
  | tup e r => cases h; exact ⟨.base (.tup (s.sub _ _ e)), by decide⟩
  | ref p => exact fall (.ref p) h
  | ty n => exact fall (.ty n) h
  | lst e r => exact fall (.lst e r) h
  | scr e => exact fall (.scr e) h
  | ins c e r => exact fall (.ins c e r) h
  | exc c e r => exact fall (.exc c e r) h
  | exc0 c => exact fall (.exc0 c) h
  | exv c e k r => exact fall (.exv c e k r) h
  | exv0 c e => exact fall (.exv0 c e) h
  | dK e r => cases h; exact ⟨.fDict (s.sub _ _ e), by decide⟩
  | dT e z l n r => cases h
  | fn a b r0 => cases h
theorem cd_isi : CallR X (.builtin "isinstance") (lowC X.K gIsi) := crN call_isi fun H G m ds vs q Q hr hs hg hq => by
  unfold gIsi at hg
  split at hg
  · cases hr with
    | cons h r =>
      cases r with
      | cons h' r =>
        cases r
        cases h'
        obtain ⟨a, e, hT, k⟩ := hg
        obtain ⟨h1, h2⟩ := tyD_ok hs h e
        exact ⟨_, _, _, _, _, rfl, ClsV.ty _, h1, kit_ty (kitB_ok a h2 _ hT), hq.here hs (.bl _) k⟩
  · exact False.elim hg
end
end DL

/-! DL7: len(set(text)); what is walked; defs by name; f-strings -/
namespace DL
open PySem PySem.Spec PyProof.Rows L2
/-- the signs of a text, each once -/
def met1 (acc : List Nat) (c : Nat) : List Nat := if c ∈ acc then acc else acc ++ [c]
def met (cs : List Nat) : List Nat := cs.foldl met1 []
abbrev sgn (c : Nat) : Str := ⟨#[c]⟩
theorem sgn_inj {a b : Nat} : sgn a = sgn b ↔ a = b := by
  constructor
  · intro h
    have := congrArg (fun s : Str => s.cps.toList) h
    simpa using this
  · intro h; rw [h]
def metS (l : List Nat) (k : Str) : Bool := l.any fun c => sgn c == k
theorem metS_iff {l : List Nat} {c : Nat} : metS l (sgn c) = decide (c ∈ l) := by
  unfold metS
  rw [Bool.eq_iff_iff]
  simp only [List.any_eq_true, beq_iff_eq, decide_eq_true_eq]
  constructor
  · rintro ⟨x, h, e⟩
    rw [← sgn_inj.mp e]
    exact h
  · intro h
    exact ⟨c, h, rfl⟩
theorem metS_step (l : List Nat) (c : Nat) (k : Str) : metS (met1 l c) k = (metS l k || decide (k = sgn c)) := by
  unfold met1
  split
  · rename_i h
    by_cases e : k = sgn c
    · subst e
      rw [metS_iff, decide_eq_true h]
      rfl
    · rw [decide_eq_false e, Bool.or_false]
  · unfold metS
    rw [List.any_append]
    congr 1
    rw [Bool.eq_iff_iff]
    simp only [List.any_cons, List.any_nil, Bool.or_false, beq_iff_eq, decide_eq_true_eq]
    exact ⟨fun h => h.symm, fun h => h.symm⟩
theorem met1_len (l : List Nat) (c : Nat) : (met1 l c).length = if metS l (sgn c) = true then l.length else l.length + 1 := by
  rw [metS_iff]
  unfold met1
  by_cases h : c ∈ l
  · rw [if_pos h, if_pos (decide_eq_true h)]
  · rw [if_neg h, if_neg (by simpa using h), List.length_append, List.length_singleton]
theorem met_take (cs : List Nat) {i c : Nat} (h : cs[i]? = some c) : met (cs.take (i + 1)) = met1 (met (cs.take i)) c := by
  unfold met
  rw [List.take_add_one, h, List.foldl_append]
  rfl
theorem met1_le (l : List Nat) (c : Nat) : (met1 l c).length ≤ l.length + 1 := by
  rw [met1_len]
  split <;> omega
theorem foldl_met_le : ∀ (cs l : List Nat), (cs.foldl met1 l).length ≤ l.length + cs.length
  | [], l => by simp
  | c :: cs, l => by
    rw [List.foldl_cons]
    have h1 := foldl_met_le cs (met1 l c)
    have h2 := met1_le l c
    rw [List.length_cons]
    omega
theorem met_le (cs : List Nat) : (met cs).length ≤ cs.length := by
  have := foldl_met_le cs []
  simpa [met] using this
theorem foldl_met_eq : ∀ (cs l : List Nat), (cs.foldl met1 l).length = l.length + cs.length ↔ cs.Nodup ∧ ∀ c ∈ cs, c ∉ l
  | [], l => by simp
  | c :: cs, l => by
    rw [List.foldl_cons, List.length_cons]
    have h1 := foldl_met_le cs (met1 l c)
    by_cases h : c ∈ l
    · have e : met1 l c = l := if_pos h
      rw [e] at h1 ⊢
      constructor
      · intro z; omega
      · intro z; exact absurd h (z.2 c List.mem_cons_self)
    · have e : met1 l c = l ++ [c] := if_neg h
      have ih := foldl_met_eq cs (l ++ [c])
      rw [e]
      rw [List.length_append, List.length_singleton] at ih
      rw [show l.length + (cs.length + 1) = l.length + 1 + cs.length by omega, ih]
      rw [List.nodup_cons]
      constructor
      · rintro ⟨h2, h3⟩
        refine ⟨⟨fun z => ?_, h2⟩, fun x hx => ?_⟩
        · exact h3 c z (by simp)
        · rcases List.mem_cons.mp hx with z | z
          · rw [z]; exact h
          · exact fun q => h3 x z (by simp [q])
      · rintro ⟨⟨h2, h3⟩, h4⟩
        refine ⟨h3, fun x hx => ?_⟩
        simp only [List.mem_append, List.mem_singleton, not_or]
        exact ⟨h4 x (List.mem_cons_of_mem _ hx), fun z => h2 (z ▸ hx)⟩
theorem met_eq (cs : List Nat) : (met cs).length = cs.length ↔ cs.Nodup := by
  have := foldl_met_eq cs []
  simpa [met] using this
section
variable {prog : Program} {w : World} {A : Around} {E : Value → Shared → Prop} {s : Shared}
theorem set_loop {R : Result → Shared → Prop} {I : Addr} {fp wr : List Addr} {G : Array GenState → Array GenState → Prop} {x : Str} {St : Nat → Shared → Prop} (W : WalksS prog w A.in1 I fp wr G x.cps.size (SignAt x) St) (S : Addr) (hSf : S ∉ fp) (hb : x.cps.size + 1 < scanBound) :
    ∀ (k i : Nat) (s : Shared), x.cps.size - i = k → i ≤ x.cps.size → St i s →
      s.heap.SetOf (strKind prog w) S (metS (met (x.cps.toList.take i))) (met (x.cps.toList.take i)).length →
      (∀ s', Moved (S :: wr) G s s' → s'.heap.SetOf (strKind prog w) S (metS (met x.cps.toList)) (met x.cps.toList).length → R (.ok (.ret .none)) s') →
      codeAny (model prog w) A (.builtin "set.update.loop" ⟨[.ref S, .ref I], []⟩) R s := by
  have hSw : S ∉ wr := fun h => hSf (W.sub _ h)
  have hsub : ∀ b ∈ wr, b ∈ S :: wr := fun b hb => List.mem_cons_of_mem _ hb
  intro k
  induction k with
  | zero =>
    intro i s hk hi hst hS hR
    have hin : i = x.cps.size := by omega
    subst hin
    refine codeAny_builtin PyProof.Rows.F.entry_set_update_loop ?_
    rw [Around.under_plainId PyProof.Rows.F.plain_set_update_loop _]
    show wpAny _ A.in1 (pyNext (.ref I) >>= _) _ _ s
    refine wpAny_bind (W.done s _ _ hst fun s' hm => ?_)
    show wpAny _ A.in1 (ret Value.none) _ _ s'
    refine wpAny_pure (hR s' (hm.mono hsub) ?_)
    have e : x.cps.toList.take x.cps.size = x.cps.toList := by
      rw [← Array.length_toList, List.take_length]
    rw [e] at hS
    obtain ⟨o, es, ep, t, ho, rest⟩ := hS
    exact ⟨o, es, ep, t, hm.heap S _ hSw ho, rest⟩
  | succ k ih =>
    intro i s hk hi hst hS hR
    have hlt : i < x.cps.size := by omega
    refine codeAny_builtin PyProof.Rows.F.entry_set_update_loop ?_
    rw [Around.under_plainId PyProof.Rows.F.plain_set_update_loop _]
    show wpAny _ A.in1 (pyNext (.ref I) >>= _) _ _ s
    refine wpAny_bind (W.item i s _ _ hlt hst fun v s' hP hst' hm => ?_)
    obtain ⟨c, t, hc, rfl⟩ := hP
    have hS' : s'.heap.SetOf (strKind prog w) S (metS (met (x.cps.toList.take i))) (met (x.cps.toList.take i)).length := by
      obtain ⟨o, es, ep, tb, ho, rest⟩ := hS
      exact ⟨o, es, ep, tb, hm.heap S _ hSw ho, rest⟩
    show wpAny _ A.in1 (holding [Value.str (sgn c) t] (setAdd S (.str (sgn c) t)) >>= _) _ _ s'
    refine wpAny_bind (wpAny_holding ?_)
    unfold setAdd
    refine wpAny_holding ?_
    have hkey : (strKind prog w).is (sgn c) (.str (sgn c) t) = true := by
      show Value.isStrOf (sgn c) (.str (sgn c) t) = true
      simp [Value.isStrOf]
    refine wpAny_bind ((strKind prog w).pyHash (k := sgn c) hkey ?_)
    have hroom : (met (x.cps.toList.take i)).length + 1 < scanBound := by
      have h1 := met_le (x.cps.toList.take i)
      rw [List.length_take] at h1
      omega
    refine wpAny_setAddHashed_of (knd := strKind prog w) (s := { s' with toks := s'.toks + 1 }) hkey rfl hS' hroom fun h' hsb hS2 => ?_
    have hc' : x.cps.toList[i]? = some c := by simpa using hc
    have hSi : h'.SetOf (strKind prog w) S (metS (met (x.cps.toList.take (i + 1)))) (met (x.cps.toList.take (i + 1))).length :=
      SetOf_congr hS2 (fun k' => by rw [met_take _ hc', metS_step]) (by rw [met_take _ hc', met1_len])
    refine wpAny_pure ⟨plainId_quiet PyProof.Rows.F.plain_set_update_loop _, ih (i + 1) _ (by omega) hlt (W.frame _ s' _ _ hst' (Nat.le_succ _) fun b hb o e => ?_) hSi fun s'' hm'' hS'' => ?_⟩
    · rw [hsb.2 b (fun h : b = S => hSf (by rw [← h]; exact hb))]; exact e
    · refine hR s'' (Moved.trans W.gtrans ((hm.mono hsub).then_heap (Nat.le_succ _) fun b o hb e => ?_) hm'') hS''
      rw [hsb.2 b (fun h : b = S => hb (by rw [h]; exact List.mem_cons_self))]; exact e
set_option maxHeartbeats 6400000 in
theorem call_set_text {x : Str} {t : Tok} {Q : Value → Shared → Prop} (hh : A.handled = none) (hn : x.cps.size + 1 < scanBound)
    (h : ∀ (h' : Heap) (tk : Nat), h'.SetOf (PySem.strKind prog w) s.heap.objs.size (metS (met x.cps.toList)) (met x.cps.toList).length →
      (∀ b o, b < s.heap.objs.size → s.heap.get? b = some o → h'.get? b = some o) → Q (.ref s.heap.objs.size) { s with heap := h', toks := tk }) :
    wpAny (model prog w) A (call (.type "set") [.str x t]) Q E s := by
  obtain ⟨c, tl, hmro⟩ := PySem.F.called_set.mro
  have hmade := PySem.F.called_set.made
  have hsub := PySem.F.called_set.sub
  refine wpAny_call (codeAny_of_tree ?_)
  show wpAny _ _ (callAny (.type "set") _) _ _ _
  refine wpAny_pure ⟨Code.quiet_builtin _ (by decide +kernel), codeAny_builtin PySem.F.entry_type_call ?_⟩
  rw [Around.under_plain (weight_type_call_type "set" [.str x t] []) rfl]
  have h1 := PySem.F.called_set.notType
  have h2 := PySem.F.called_set.canCreate
  have hct := PySem.F.typeCall_set_1 (.str x t)
  repeat (any_goals (first | assumption | wp_step))
  refine codeAny_mono (code_set_new_1 (.str x t) (E := E) (Q₁ := fun obj s₁ => ∃ led : Bool, obj = .ref s.heap.objs.size ∧ s₁ = { s with heap := s.heap.push { cls := .type "set", dict := none, data := .set #[] 0 (.fresh 0 0 led) } }) fun led => ⟨led, rfl, rfl⟩) fun r s₁ hr => ?_
  cases r with
  | error e => exact hr
  | ok fl =>
    cases fl with
    | ret obj =>
      obtain ⟨led, rfl, rfl⟩ := hr
      have hS : (s.heap.push { cls := .type "set", dict := none, data := .set #[] 0 (.fresh 0 0 led) }).get? s.heap.objs.size = some { cls := .type "set", dict := none, data := .set #[] 0 (.fresh 0 0 led) } := Heap.get?_push_size _ rfl
      have hT : Shared.TypeIs { s with heap := s.heap.push { cls := .type "set", dict := none, data := .set #[] 0 (.fresh 0 0 led) } } (.ref s.heap.objs.size) "set" := ⟨_, hS, rfl⟩
      have hli := PySem.F.called_set.init.lookup
      have hbi := PySem.F.called_set.init.bind (.ref s.heap.objs.size)
      repeat (any_goals (first | assumption | wp_step))
      refine codeAny_mono (codeAny_call_builtin (R := wants (fun r s₂ => r = .none ∧ ∃ h' tk, s₂ = { s with heap := h', toks := tk } ∧
          h'.SetOf (PySem.strKind prog w) s.heap.objs.size (metS (met x.cps.toList)) (met x.cps.toList).length ∧
          (∀ b o, b < s.heap.objs.size → s.heap.get? b = some o → h'.get? b = some o)) E) PySem.F.called_set.init.plain PySem.F.entry_set_init (check_set_init_1 hT ?_)) fun r₂ s₂ hr₂ => ?_
      · have hsls := PySem.F.sub_str_set
        have hslf := PySem.F.sub_str_frozenset
        have hTx := typeIs_str { s with heap := s.heap.push { cls := .type "set", dict := none, data := .set #[] 0 (.fresh 0 0 led) } } x t
        unfold Builtin.«set.__init__» noKeywords Builtin.Frozenset.updateFrom
        generalize hPI : pyIter = PI
        wp_walk
        subst hPI
        refine wpAny_pyIter_str fun oI St W st => ?_
        refine wpAny_bind (wpAny_runValue ?_)
        have hh3 : A.in1.in1.in1.handled = none := by simp [hh]
        have hSf : s.heap.objs.size ∉ [(s.heap.push { cls := .type "set", dict := none, data := .set #[] 0 (.fresh 0 0 led) }).objs.size] := by
          rw [Heap.size_push]; simp only [List.mem_cons, List.mem_singleton, List.not_mem_nil, or_false]
          exact Nat.ne_of_lt (Nat.lt_succ_self _)
        refine set_loop ((W _ hh3).toS) s.heap.objs.size hSf hn (x.cps.size - 0) 0 _ (by omega) (Nat.zero_le _) st ?hS0 ?hR
        case hS0 =>
          have hget := Heap.get?_push_of_some oI hS
          exact PyProof.Rows.SetOf_congr ((PyProof.Rows.setObjOf_fresh (knd := PySem.strKind prog w) led).setOf hget (by unfold scanBound; omega)) (fun _ => rfl) rfl
        case hR =>
          intro s' hm hS'
          obtain ⟨h', g', d', tk', os'⟩ := s'
          have eg : g' = s.gens := hm.gens
          have ed : d' = s.drawn := hm.drawn
          have eo : os' = s.os := hm.os
          subst eg; subst ed; subst eo
          show wpAny _ _ _ _ _ _
          refine wpAny_pure ?_
          show wpAny _ _ (ret Value.none) _ _ _
          refine wpAny_pure ⟨rfl, h', tk', rfl, hS', fun b o hb e => ?_⟩
          have hb1 : b ≠ s.heap.objs.size := Nat.ne_of_lt hb
          have hb2 : b ≠ (s.heap.push { cls := .type "set", dict := none, data := .set #[] 0 (.fresh 0 0 led) }).objs.size := by
            rw [Heap.size_push]; exact Nat.ne_of_lt (Nat.lt_succ_of_lt hb)
          exact hm.heap b o (by simp only [List.mem_cons, List.mem_singleton, List.not_mem_nil, or_false, not_or]; exact ⟨hb1, hb2⟩) (Heap.get?_push_of_some _ (Heap.get?_push_of_some _ e))
      · cases r₂ with
        | error e => exact hr₂
        | ok fl₂ =>
          cases fl₂ with
          | ret r =>
            obtain ⟨rfl, h', tk, rfl, hS', hk'⟩ := hr₂
            repeat (any_goals (first | assumption | wp_step))
            exact h _ _ hS' hk'
          | _ => exact hr₂.elim
    | _ => exact hr.elim
end
section
variable {X : Cx} {W : WX} {pos : Pos} {a e : Expr} {ra re : RE}
def tLenSetT (ta : TE) : TE := fun σ H Q => ta σ H fun x H1 => ∃ z : Str, x = .str z ∧ z.length + 1 < scanBound ∧ Q (.int (met z.cps.toList).length) H1
theorem pe_lenSetT {ta : TE} {p p2 q : Pos} (hc : X.calm = true) (hg : Gl X "len") (hm : X.mg "len" = none) (hg2 : Gl X "set") (hm2 : X.mg "set" = none) (ha : PE X a ta)
    (na : starEach [a] X.env = (false, eval a X.env) :: starEach [] X.env := by rfl) : PE X (.Call (.Name "len" p) [.Call (.Name "set" p2) [a] [] q] [] pos) (tLenSetT ta) := by
  refine ⟨fun pins s σ H Q I h => ?_⟩
  refine Call_ (ld_blt I hg hm boot_len ?_)
  refine PyProof.Rows.callWith_builtin1 (PyProof.Rows.args_cons ?_ rfl) rfl rfl
  refine Call_ (ld_blt I hg2 hm2 boot_set ?_)
  refine PyProof.Rows.callWith_type1 (PyProof.Rows.args_cons (thn (ha.run pins s σ H _ I h) fun v s1 ⟨x, H1, I1, r1, q1⟩ => PyProof.Rows.args_nil ?_) na) na rfl
  obtain ⟨z, rfl, h1, q1⟩ := q1
  obtain ⟨t, rfl⟩ := r1
  refine call_set_text (I1.ok.hd hc) h1 fun h' tk hS hk => ?_
  refine PyProof.Rows.args_nil ?_
  obtain ⟨o, es, ep, t, ho, hex, hd, _, _, _, hf, hn⟩ := hS
  have I2 : L2.Inv X pins σ H1 { s1 with heap := h', toks := tk } := I1.kept fun b o e => hk b o (Heap.lt_size e) e
  have hle : (met z.cps.toList).length ≤ z.cps.size := Nat.le_trans (met_le z.cps.toList) (by simp)
  have hz : z.cps.size + 1 < 4096 := h1
  refine call_len_set ho hex hd hf (by rw [hn]; omega) ⟨.int (met z.cps.toList).length, H1, I2.tok _, ⟨_, by rw [hn]⟩, q1⟩
def rLenSet (r : RE) : RE := fun xd n m q => r xd n m fun d m1 => ∃ cs, d = .str cs ∧ cs.length ≤ 4000 ∧ q (.int (met cs).length) m1
theorem de_lenSet {p p2 q : Pos} (hc : X.calm = true) (hg : Gl X "len") (hm : X.mg "len" = none) (hg2 : Gl X "set") (hm2 : X.mg "set" = none) (ha : DE X W a ra)
    (na : starEach [a] X.env = (false, eval a X.env) :: starEach [] X.env := by rfl) : DE X W (.Call (.Name "len" p) [.Call (.Name "set" p2) [a] [] q] [] pos) (rLenSet ra) := PE.imp (pe_lenSetT hc hg hm hg2 hm2 ha na) fun t H Q ⟨n, m, G, xd, q, hn, hs, hl, hr, hq⟩ =>
  ⟨n, m, G, xd, _, hn, hs, hl, hr, fun d m1 v G1 H1 e1 s1 r1 ⟨cs, e, hz, k⟩ => by
    subst e
    cases r1
    refine ⟨_, rfl, ?_, ?_⟩
    · rw [str_len]
      show cs.length + 1 < 4096
      omega
    · simpa using hq _ m1 _ G1 H1 e1 s1 (.int _) k⟩

/-! ### whatever is walked: a list, a tuple, a text -/
def iAny (K : PySem.W.Frag) (tl : TE) : TI := fun σ H R => tl σ H fun x H1 => (∃ a, x = .ref a ∧ (∃ xs, SqL K H1 a xs) ∧ R (Itl K a) H1) ∨ (∃ a, x = .ref a ∧ (∃ xs, SqT K H1 a xs) ∧ R (Itt K a) H1) ∨ ∃ z, x = .str z ∧ R (Its z) H1
theorem pi_any {tg l : Expr} {tl : TE} (hl : PE X l tl) : PI X tg l (iAny X.K tl) := by
  refine ⟨fun pins s σ H R I h => ?_⟩
  refine thn (hl.run pins s σ H _ I h) fun v s1 ⟨x, H1, I1, r1, q1⟩ => ?_
  rcases q1 with ⟨a, e, ⟨xs, hq⟩, q⟩ | ⟨a, e, ⟨xs, hq⟩, q⟩ | ⟨z, e, q⟩
  · subst e
    cases r1
    obtain ⟨its, rv, p, hz⟩ := I1.list hq
    refine wpAny_pyIter_list p.isList ?_
    refine ⟨s1.heap.objs.size, [s1.heap.objs.size], _, _, H1, rfl, I1.kept (t' := s1.toks) fun b o e => Heap.get?_push_of_some _ e, turn_list a _, ⟨_, Heap.get?_push_size _ rfl, rfl, rfl⟩, fun b hb => ?_, q⟩
    have e : b = s1.heap.objs.size := by simpa using hb
    subst e
    exact I1.fpOk (Nat.le_refl _) (I1.hok.fresh (Nat.le_refl _))
  · subst e
    cases r1
    obtain ⟨its, rv, p, hz⟩ := I1.tuple hq
    refine wpAny_pyIter_tuple (show s1.heap.IsTuple a its.toArray from p) ?_
    refine ⟨s1.heap.objs.size, [s1.heap.objs.size], _, _, H1, rfl, I1.kept (t' := s1.toks) fun b o e => Heap.get?_push_of_some _ e, turn_tuple a _, ⟨_, Heap.get?_push_size _ rfl, rfl, rfl⟩, fun b hb => ?_, q⟩
    have e : b = s1.heap.objs.size := by simpa using hb
    subst e
    exact I1.fpOk (Nat.le_refl _) (I1.hok.fresh (Nat.le_refl _))
  · subst e
    obtain ⟨t, rfl⟩ := r1
    cases ha : z.cps.all (· < 128)
    · exact wpAny_pyIter_wide ha (pi_one (tk := s1.toks) I1 _ (turn_str _ z t "str_iterator" (.inr rfl)) ⟨_, Heap.get?_push_size _ rfl, rfl, rfl⟩ q)
    · exact wpAny_pyIter_ascii ha (pi_one (tk := s1.toks) I1 _ (turn_str _ z t "str_ascii_iterator" (.inl rfl)) ⟨_, Heap.get?_push_size _ rfl, rfl, rfl⟩ q)
/-- the items of what is walked -/
def gAllOf : D → Mem → (List D → Mem → Prop) → Prop
  | .lst ds, m1, q => q ds m1
  | .tup ds, m1, q => q ds m1
  | .str a, m1, q => q (chars a) m1
  | .ref p, m1, q => ∃ ds, m1 p = some (.lst ds) ∧ q ds (mdel m1 p)
  | _, _, _ => False
def rAll (r : RE) : RI := fun xd n m q => r xd n m fun d m1 => gAllOf d m1 q
theorem di_any {tg : Expr} (h : DE X W e re) : DI X W tg e (rAll re) := PI.imp (pi_any h) fun t H R ⟨n, m, G, xd, q, hn, hs, hl, hr, hq⟩ =>
  ⟨n, m, G, xd, _, hn, hs, hl, hr, fun d m1 v G1 H1 e1 s1 r1 k => by
    cases r1 with
    | lst e r => exact .inl ⟨_, rfl, ⟨_, SqL.of (s1.sub _ _ e)⟩, hq _ m1 G1 H1 _ e1 s1 (src_list e r) k⟩
    | tup e r => exact .inr (.inl ⟨_, rfl, ⟨_, SqT.of (s1.sub _ _ e)⟩, hq _ m1 G1 H1 _ e1 s1 (src_tup e r) k⟩)
    | str a => exact .inr (.inr ⟨_, rfl, hq _ m1 G1 H1 _ e1 s1 src_str k⟩)
    | ref p =>
      obtain ⟨ds, e, k⟩ := k
      obtain ⟨vs, h1, r1⟩ := s1.lst e
      obtain ⟨s2, e2⟩ := s1.freeze e h1
      exact .inl ⟨_, rfl, ⟨vs, SqL.of h1⟩, hq ds _ _ H1 _ (e1.trans e2) s2 (src_list upd_same (r1.mono e2)) k⟩
    | _ => exact False.elim k⟩

/-! ### defs by name -/
structure CalD (P : Program) (w : World) (K : PySem.W.Frag) (mg : Str → Option Value) (base : Heap) (k : Nat) (x : Str) (ps : List Str) (sp : SpD) : Prop where
  ex : ∃ f fd, FnD P w K mg base k f fd ps sp ∧ Binds K fd ps [] ∧ mg x = some (.ref f) ∧ PySem.W.keepIn K (.ref f) = true
theorem de_c1 {j k : Nat} {ps : List Str} {sp : SpD} {x : Str} {p : Pos} {e : Expr} {es : List Expr} {ra : RA} (c : CalD X.prog X.w X.K X.mg X.base k x ps sp) (hr : Room j X.A) (hk : k ≤ j) (hg : Gl X x) (hx : Pas X W)
    (ha : DA X W (e :: es) ra) (hdb : (x == ("__debug__" : Str)) = false := by decide) (he : starEach (e :: es) X.env = (false, eval e X.env) :: starEach es X.env := by rfl) (hpl : (backTo pos (starEach es X.env)).any (·.1) = false := by rfl) :
    DE X W (.Call (.Name x p) (e :: es) [] pos) (rCall sp ra) := by
  obtain ⟨f, fd, F, b, m, kp⟩ := c.ex
  exact de_call F (hr.mono hk) hg m kp b hx ha hdb he hpl
theorem CalD.imp {P : Program} {w : World} {K : PySem.W.Frag} {mg : Str → Option Value} {base : Heap} {k : Nat} {x : Str} {ps : List Str} {sp sp' : SpD} (c : CalD P w K mg base k x ps sp) (h : ∀ ds m q xf, sp' ds m q xf → sp ds m q xf) : CalD P w K mg base k x ps sp' := by
  obtain ⟨f, fd, F, b, m, kp⟩ := c.ex
  exact ⟨f, fd, F.imp fun vs H Q E ⟨ds, m, G, q, xf, r, s, z, a⟩ => ⟨ds, m, G, q, xf, r, s, h _ _ _ _ z, a⟩, b, m, kp⟩

/-! ### -i; truth -/
def rUn (g : D → Mem → QD → Prop) (r : RE) : RE := fun xd n m q => r xd n m fun d m1 => g d m1 q
def gNeg : D → Mem → QD → Prop
  | .int i, m, q => q (.int (-i)) m
  | _, m, q => False
theorem de_neg (ha : DE X W a ra) : DE X W (.UnaryOp .USub a pos) (rUn gNeg ra) := PE.imp (pe_un un_neg ha) fun t H Q ⟨n, m, G, xd, q, hn, hs, hl, hr, hq⟩ =>
  ⟨n, m, G, xd, _, hn, hs, hl, hr, fun d m1 v G1 H1 e1 s1 r1 k => by
    cases r1 with
    | int i => exact ⟨i, rfl, hq _ m1 _ G1 H1 e1 s1 (.int _) k⟩
    | _ => exact False.elim k⟩
/-- the truth of a value that is no bool -/
def truD : D → Mem → Option Bool
  | .non, _ => some false
  | .bl b, _ => some b
  | .int i, _ => some (i != 0)
  | .tup ds, _ => some (!ds.isEmpty)
  | x, m => (lstOf x m).map fun ds => !ds.isEmpty
def rTru (r : RE) : RT := fun xd n m q => r xd n m fun d m1 => ∃ b, truD d m1 = some b ∧ q b m1
theorem truD_ok {K : PySem.W.Frag} {G H : Hp} {m : Mem} {x : D} {v : V} {b : Bool} (s : Sep K G m H) (r : Rep K G x v) (h : truD x m = some b) : TruV K v H b := by
  have fall : ∀ {x : D} {v : V}, Rep K G x v → (lstOf x m).map (fun ds => !ds.isEmpty) = some b → TruV K v H b := fun {x v} r h => by
    rw [Option.map_eq_some_iff] at h
    obtain ⟨ds, e, rfl⟩ := h
    obtain ⟨p, vs, rfl, hp, ra⟩ := lst_at s r e
    refine .inl ⟨vs, SqL.of hp, ?_⟩
    cases ra <;> rfl
  cases r with
  | non => cases h; rfl
  | bl b => cases h; rfl
  | int i => cases h; rfl
  | tup e r =>
    cases h
    refine .inr (.inl ⟨_, SqT.of (s.sub _ _ e), ?_⟩)
    cases r <;> rfl
  | str c => exact fall (.str c) h
  | ref p => exact fall (.ref p) h
  | ty n => exact fall (.ty n) h
  | lst e r => exact fall (.lst e r) h
  | scr e => exact fall (.scr e) h
  | ins c e r => exact fall (.ins c e r) h
  | exc c e r => exact fall (.exc c e r) h
  | exc0 c => exact fall (.exc0 c) h
  | exv c e k r => exact fall (.exv c e k r) h
  | exv0 c e => exact fall (.exv0 c e) h
  | dK e r => exact fall (.dK e r) h
  | dT e z l n r => exact fall (.dT e z l n r) h
  | fn a b r0 => exact fall (.fn a b r0) h
theorem dt_tru (ha : DE X W a ra) (he : ∀ whole, isTrue a X.env whole = (do let v ← whole; standAt a.pos; holding [v] (truthy v)) := by intro _; rfl) : DT X W a (rTru ra) := PT.imp (pt_truth ha he) fun t H Q ⟨n, m, G, xd, q, hn, hs, hl, hr, hq⟩ =>
  ⟨n, m, G, xd, _, hn, hs, hl, hr, fun d m1 v G1 H1 e1 s1 r1 ⟨b, e, k⟩ => ⟨b, truD_ok s1 r1 e, hq b m1 G1 H1 e1 s1 k⟩⟩

/-! ### f-strings of ints and texts -/
def gFmt : D → Mem → QD → Prop
  | .str a, m1, q => a.length ≤ sizeLine ∧ q (.str a) m1
  | .int i, m1, q => i.natAbs.log2 < 1920 ∧ q (.str (digs i)) m1
  | _, _, _ => False
def rFmt (r : RE) : RE := fun xd n m q => r xd n m fun d m1 => gFmt d m1 q
theorem de_fmt (ha : DE X W a ra) : DE X W (.FormattedValue a (-1) none pos) (rFmt ra) := PE.imp (pe_fmt ha) fun t H Q ⟨n, m, G, xd, q, hn, hs, hl, hr, hq⟩ =>
  ⟨n, m, G, xd, _, hn, hs, hl, hr, fun d m1 v G1 H1 e1 s1 r1 k => by
    cases r1 with
    | str c => exact .inl ⟨_, rfl, by rw [str_len]; exact k.1, hq _ m1 _ G1 H1 e1 s1 (.str c) k.2⟩
    | int i =>
      refine .inr ⟨i, rfl, k.1, ?_⟩
      have := hq _ m1 _ G1 H1 e1 s1 (.str (digs i)) k.2
      unfold digs at this
      rw [str_eta] at this
      exact this
    | _ => exact False.elim k⟩
inductive DJ (X : Cx) (W : WX) : List Expr → List RE → Prop where
  | nil : DJ X W [] []
  | cons {e : Expr} {r : RE} {es : List Expr} {rs : List RE} (h : DE X W e r) (q : DJ X W es rs) : DJ X W (e :: es) (r :: rs)
def rJs : List RE → List Nat → XD → Nv → Mem → (List Nat → Mem → Prop) → Prop
  | [], acc, _, _, m, q => q acc m
  | r :: rs, acc, xd, n, m, q => r xd n m fun d m1 => ∃ y, d = .str y ∧ (acc ++ y).length ≤ sizeLine ∧ rJs rs (acc ++ y) xd n m1 q
def rJoined (rs : List RE) : RE := fun xd n m q => rJs rs [] xd n m fun out m1 => q (.str out) m1
theorem DJ.pj {es : List Expr} {rs : List RE} (h : DJ X W es rs) : PJ X es (rs.map (lowE X.K W)) := by
  induction h with
  | nil => exact .nil
  | cons h q ih => exact .cons h ih
theorem js_low {Q : Str → Hp → Prop} {t : L2.St} {n : Nv} {xd : XD} {q : List Nat → Mem → Prop} : ∀ (rs : List RE) (acc : List Nat) (m : Mem) (G H : Hp), RepN X.K G n t → Sep X.K G m H → LinkX X.K W G xd → rJs rs acc xd n m q →
    (∀ out m' G' H', Same G G' → Sep X.K G' m' H' → q out m' → Q ⟨out.toArray⟩ H') → tJs (rs.map (lowE X.K W)) ⟨acc.toArray⟩ t H Q
  | [], acc, m, G, H, hn, hs, hl, hr, hq => hq acc m G H (Same.refl G) hs hr
  | r :: rs, acc, m, G, H, hn, hs, hl, hr, hq => ⟨n, m, G, xd, _, hn, hs, hl, hr, fun d m1 v G1 H1 e1 s1 r1 ⟨y, e, hz, k⟩ => by
    subst e
    cases r1
    refine ⟨_, rfl, by rw [str_app, str_len]; exact hz, ?_⟩
    rw [str_app]
    exact js_low rs (acc ++ y) m1 G1 H1 (hn.mono e1) s1 (hl.mono e1) k fun out m' G' H' e2 s2 q2 => hq out m' G' H' (e1.trans e2) s2 q2⟩
theorem de_joined {v1 v2 : Expr} {rest : List Expr} {rs : List RE} (h : DJ X W (v1 :: v2 :: rest) rs) : DE X W (.JoinedStr (v1 :: v2 :: rest) pos) (rJoined rs) := PE.imp (pe_joined h.pj) fun t H Q ⟨n, m, G, xd, q, hn, hs, hl, hr, hq⟩ =>
  js_low rs [] m G H hn hs hl hr fun out m' G' H' e1 s1 k => hq _ m' _ G' H' e1 s1 (.str out) k
end
end DL

/-! DL8: what is forgotten, loops by a word, comprehensions by a function, the constants and built-ins of the module -/
namespace DL
open PySem PySem.Spec PyProof.Rows L2

/-! ### objects forgotten, or known by a word alone -/
inductive MO.le : MO → MO → Prop
  | refl (o : MO) : MO.le o o
  | inv {P : List D → Prop} {ds : List D} : P ds → MO.le (.lst ds) (.inv P)
theorem RepO.le {K : PySem.W.Frag} {G : Hp} {p : Addr} {a b : MO} {u : HO} (r : RepO K G p a u) (h : MO.le a b) : RepO K G p b u := by
  cases h with
  | refl => exact r
  | inv p =>
    cases r with
    | lst r => exact .inv r p
theorem MO.le.trans {a b c : MO} (h : MO.le a b) (k : MO.le b c) : MO.le a c := by
  cases h with
  | refl => exact k
  | inv p =>
    cases k with
    | refl => exact .inv p
def Sub (m m' : Mem) : Prop := ∀ b z, m b = some z → ∃ y, m' b = some y ∧ MO.le y z
theorem Sub.refl (m : Mem) : Sub m m := fun _ z h => ⟨z, h, .refl z⟩
theorem Sub.trans {a b c : Mem} (h : Sub a b) (k : Sub b c) : Sub a c := fun x z e => by
  obtain ⟨y, e1, l1⟩ := h x z e
  obtain ⟨w, e2, l2⟩ := k x y e1
  exact ⟨w, e2, l2.trans l1⟩
theorem Sub.add {m m' : Mem} {p : Addr} {o : MO} (h : Sub m m') (hp : m p = none) : Sub m (mset m' p o) := fun b z e => by
  rw [mset_ne (mne e hp)]
  exact h b z e
theorem Sub.both {m m' : Mem} {p : Addr} {o : MO} (h : Sub m m') : Sub (mset m p o) (mset m' p o) := fun b z e => by
  by_cases hb : b = p
  · subst hb
    rw [mset_same] at e ⊢
    exact ⟨z, e, .refl z⟩
  · rw [mset_ne hb] at e ⊢
    exact h b z e
theorem Sub.del {m m' : Mem} {p : Addr} (h : Sub m m') (hp : m p = none) : Sub m (mdel m' p) := fun b z e => by
  unfold mdel
  rw [if_neg (mne e hp)]
  exact h b z e
theorem Sub.set {m m' : Mem} {p : Addr} {o o' : MO} (h : Sub m m') (hp : m p = some o) (hl : MO.le o' o) : Sub m (mset m' p o') := fun b z e => by
  by_cases hb : b = p
  · subst hb
    rw [mset_same]
    rw [hp] at e
    cases e
    exact ⟨o', rfl, hl⟩
  · rw [mset_ne hb]
    exact h b z e
theorem Sub.none {m m' : Mem} {p : Addr} (h : Sub m m') (hp : m' p = Option.none) : m p = Option.none := by
  cases q : m p with
  | none => rfl
  | some z =>
    obtain ⟨y, e, _⟩ := h p z q
    rw [e] at hp
    cases hp
theorem Sub.inv {m m' : Mem} {p : Addr} {P : List D → Prop} (h : Sub m m') (e : m p = some (.inv P)) : m' p = some (.inv P) ∨ ∃ ds, m' p = some (.lst ds) ∧ P ds := by
  obtain ⟨y, e1, l⟩ := h p _ e
  cases l with
  | refl => exact .inl e1
  | inv p => exact .inr ⟨_, e1, p⟩
theorem Sep.sub' {K : PySem.W.Frag} {G H : Hp} {m m' : Mem} (s : Sep K G m' H) (h : Sub m m') : Sep K G m H :=
  ⟨s.sub, fun b z e => by
    obtain ⟨y, e1, _⟩ := h b z e
    exact s.out b y e1, fun b z e => by
    obtain ⟨y, e1, l⟩ := h b z e
    obtain ⟨u, e2, r⟩ := s.own b y e1
    exact ⟨u, e2, r.le l⟩⟩
/-- a word about a list's items, looked into -/
def opn (m : Mem) (r : Mem → Prop) : Prop := ∃ b P, m b = some (.inv P) ∧ ∀ ds, P ds → r (mset m b (.lst ds))
theorem Sep.opn {K : PySem.W.Frag} {G H : Hp} {m : Mem} {b : Addr} {P : List D → Prop} (s : Sep K G m H) (h : m b = some (.inv P)) : ∃ ds, P ds ∧ Sep K G (mset m b (.lst ds)) H := by
  obtain ⟨u, e, r⟩ := s.own b _ h
  cases r with
  | inv r p =>
    refine ⟨_, p, s.sub, fun a z q => ?_, fun a z q => ?_⟩
    · by_cases ha : a = b
      · subst ha
        exact s.out a _ h
      · rw [mset_ne ha] at q
        exact s.out a z q
    · by_cases ha : a = b
      · subst ha
        rw [mset_same] at q
        cases q
        exact ⟨_, e, .lst r⟩
      · rw [mset_ne ha] at q
        exact s.own a z q

section
variable {P : Program} {w : World} {K : PySem.W.Frag} {mg : Str → Option Value} {base : Heap}
/-- what a def's body must come to -/
def rtD (q : QD) : QD := fun d m2 => ∃ m1, Sub m1 m2 ∧ q d m1
def enD (q : QD) : EN := { nx := fun _ m2 => rtD q .non m2, rt := rtD q }
def xdD (xf : XF) : XD := fun c fs _ m2 => ∃ m1, Sub m1 m2 ∧ xf c fs m1
/-- THE RULE for a def -/
theorem fnS {x qual : Str} {st : Stmt} {f : Addr} {fd : FuncData} {N ps : List Str} {k : Nat} {sp : SpD} (F : Fun K x qual st f fd) (S : FnScope N ps (defScope st)) (len : ∀ ds m q xf, sp ds m q xf → ds.length = ps.length)
    (hbody : ∀ (cdv : Value) (A : Around) (outer : List Env) (s : Shared) (H : Hp) (E : XK), Room k (A.deeper (envOfC qual (defScope st) s.heap.objs.size f cdv)) →
      ∃ r, DSs (cxOf (L2.CX P w) P w K mg base N qual (defScope st) f cdv A outer s H E) (WF E) (defBody st) r ∧ ∀ ds m q xf, sp ds m q xf → r (xdD xf) (enD q) (nvs N ds) m) : FnD P w K mg base (k + 1) f fd ps sp := by
  refine F.okX S (fun vs H Q E ⟨ds, m, G, q, xf, hr, hs, h, _⟩ => by rw [← hr.length]; exact len ds m q xf h) fun cdv A outer s H vs Q E hr ⟨ds, m, G, q, xf, rs, hs, h, hq, hx⟩ => ?_
  obtain ⟨r, hd, hv⟩ := hbody cdv A outer s H E hr
  refine ⟨_, hd, _, m, G, _, _, ?_, hs, ?_, hv ds m q xf h, ?_⟩
  · unfold nvs L2.start
    rw [← rs.length]
    exact RepN.start _ rs
  · exact fun nm c fs o _ m' t G' H' e1 s1 _ r1 ⟨m1, z, k⟩ => hx nm c fs o m1 G' H' e1 (s1.sub' z) r1 k
  · exact ⟨fun n m' t G' H' e1 s1 _ ⟨m1, z, k⟩ => hq .non m1 .non G' H' e1 (s1.sub' z) .non k, fun d m' v G' H' e1 s1 r1 ⟨m1, z, k⟩ => hq d m1 v G' H' e1 (s1.sub' z) r1 k, fun _ _ _ _ _ _ _ _ k => k.elim, fun _ _ _ _ _ _ _ _ k => k.elim⟩
/-- .. which looks into a word about a list first -/
theorem fnSo {x qual : Str} {st : Stmt} {f : Addr} {fd : FuncData} {N ps : List Str} {k : Nat} {sp : SpD} (F : Fun K x qual st f fd) (S : FnScope N ps (defScope st)) (len : ∀ ds m q xf, sp ds m q xf → ds.length = ps.length)
    (hbody : ∀ (cdv : Value) (A : Around) (outer : List Env) (s : Shared) (H : Hp) (E : XK), Room k (A.deeper (envOfC qual (defScope st) s.heap.objs.size f cdv)) →
      ∃ r, DSs (cxOf (L2.CX P w) P w K mg base N qual (defScope st) f cdv A outer s H E) (WF E) (defBody st) r ∧ ∀ ds m q xf, sp ds m q xf → opn m fun m' => r (xdD xf) (enD q) (nvs N ds) m') : FnD P w K mg base (k + 1) f fd ps sp := by
  refine F.okX S (fun vs H Q E ⟨ds, m, G, q, xf, hr, hs, h, _⟩ => by rw [← hr.length]; exact len ds m q xf h) fun cdv A outer s H vs Q E hr ⟨ds, m, G, q, xf, rs, hs, h, hq, hx⟩ => ?_
  obtain ⟨r, hd, hv⟩ := hbody cdv A outer s H E hr
  obtain ⟨b, Pb, hb, hv⟩ := hv ds m q xf h
  obtain ⟨es, pe, hs'⟩ := hs.opn hb
  refine ⟨_, hd, _, _, G, _, _, ?_, hs', ?_, hv es pe, ?_⟩
  · unfold nvs L2.start
    rw [← rs.length]
    exact RepN.start _ rs
  · exact fun nm c fs o _ m' t G' H' e1 s1 _ r1 ⟨m1, z, k⟩ => hx nm c fs o m1 G' H' e1 (s1.sub' z) r1 k
  · exact ⟨fun n m' t G' H' e1 s1 _ ⟨m1, z, k⟩ => hq .non m1 .non G' H' e1 (s1.sub' z) .non k, fun d m' v G' H' e1 s1 r1 ⟨m1, z, k⟩ => hq d m1 v G' H' e1 (s1.sub' z) r1 k, fun _ _ _ _ _ _ _ _ k => k.elim, fun _ _ _ _ _ _ _ _ k => k.elim⟩
theorem rt_same {q : QD} {d : D} {m : Mem} (h : q d m) : rtD q d m := ⟨m, Sub.refl m, h⟩
theorem rt_sub {q : QD} {d : D} {m m2 : Mem} (s : Sub m m2) (h : q d m) : rtD q d m2 := ⟨m, s, h⟩
end

/-! ### constants of the module, built-ins -/
section
variable {X : Cx} {W : WX} {pos : Pos}
theorem de_gstr {x : Str} {cs : List Nat} (hg : Gl X x) (hm : ∃ t, X.mg x = some (.str ⟨cs.toArray⟩ t)) (hd : (x == ("__debug__" : Str)) = false := by decide) : DE X W (.Name x pos) (rC (.str cs)) := by
  obtain ⟨t, e⟩ := hm
  exact de_glob (v := .str ⟨cs.toArray⟩) hg e ⟨t, rfl⟩ (fun _ => .str cs) hd
theorem de_gint {x : Str} {i : Int} (hg : Gl X x) (hm : ∃ t, X.mg x = some (.int i t)) (hd : (x == ("__debug__" : Str)) = false := by decide) : DE X W (.Name x pos) (rC (.int i)) := by
  obtain ⟨t, e⟩ := hm
  exact de_glob (v := .int i) hg e ⟨t, rfl⟩ (fun _ => .int i) hd
end
theorem bt_len : bootBuiltins "len" = some (.builtin "len") := by decide +kernel
theorem bt_abs : bootBuiltins "abs" = some (.builtin "abs") := by decide +kernel
theorem bt_all : bootBuiltins "all" = some (.builtin "all") := by decide +kernel
theorem bt_any : bootBuiltins "any" = some (.builtin "any") := by decide +kernel
theorem bt_max : bootBuiltins "max" = some (.builtin "max") := by decide +kernel
theorem bt_min : bootBuiltins "min" = some (.builtin "min") := by decide +kernel
theorem bt_isinstance : bootBuiltins "isinstance" = some (.builtin "isinstance") := by decide +kernel
theorem bt_int : bootBuiltins "int" = some (.type "int") := by decide +kernel
theorem bt_str : bootBuiltins "str" = some (.type "str") := by decide +kernel
theorem bt_bool : bootBuiltins "bool" = some (.type "bool") := by decide +kernel
theorem bt_list : bootBuiltins "list" = some (.type "list") := by decide +kernel
theorem bt_tuple : bootBuiltins "tuple" = some (.type "tuple") := by decide +kernel
theorem bt_dict : bootBuiltins "dict" = some (.type "dict") := by decide +kernel

/-! ### a list of one's own that won't change any more -/
def gFrz : D → Mem → QD → Prop
  | .ref p, m, q => ∃ ds, m p = some (.lst ds) ∧ q (.lst ds) (mdel m p)
  | d, m, q => q d m
def rFrz (r : RE) : RE := fun xd n m q => r xd n m fun d m1 => gFrz d m1 q
theorem de_frz {X : Cx} {W : WX} {e : Expr} {re : RE} (h : DE X W e re) : DE X W e (rFrz re) := PE.imp h fun t H Q ⟨n, m, G, xd, q, hn, hs, hl, hr, hq⟩ =>
  ⟨n, m, G, xd, _, hn, hs, hl, hr, fun d m1 v G1 H1 e1 s1 r1 k => by
    cases r1 with
    | ref p =>
      obtain ⟨ds, e, k⟩ := k
      obtain ⟨vs, h1, r1⟩ := s1.lst e
      obtain ⟨s2, e2⟩ := s1.freeze e h1
      exact hq _ _ _ _ H1 (e1.trans e2) s2 (.lst upd_same (r1.mono e2)) k
    | _ => exact hq _ m1 _ G1 H1 e1 s1 (by first | (constructor <;> assumption) | exact Rep.exv (by assumption) (by assumption) (by assumption) (by assumption) | exact Rep.exv0 (by assumption) (by assumption)) k⟩
/-! ### loops -/
/-- by cases of the rest: the turn is shown with what follows as it stands -/
theorem for_step {T : Tgt} {b : RS} {xd : XD} {e : EN} (J : List D → Nv → Mem → Prop) (hd : ∀ n m, J [] n m → e.nx n m)
    (hs : ∀ x xs n m, J (x :: xs) n m → ∀ k : Nv → Mem → Prop, (∀ n m, J xs n m → k n m) → setT T x n fun n1 => b xd ⟨k, e.rt, e.nx, k⟩ n1 m) : ∀ (xs : List D) (n : Nv) (m : Mem), J xs n m → forD T b xd xs e n m
  | [], n, m, h => by rw [forD]; exact hd n m h
  | x :: xs, n, m, h => by
    rw [forD]
    exact hs x xs n m h _ fun n m h => for_step J hd hs xs n m h
/-- one turn of a comprehension -/
def turnD (T : Tgt) (tt : RT) (te : RE) (n : Nv) (P : Addr) (k : Mem → Prop) (x : D) (m : Mem) : Prop := setT T x n fun n2 => tt xd0 n2 m fun b m1 => if b = true then te xd0 n2 m1 fun d m2 => ∃ acc, m2 P = some (.lst acc) ∧ acc.length < sizeLine ∧ k (mset m2 P (.lst (acc ++ [d]))) else k m1
theorem comp_step {T : Tgt} {tt : RT} {te : RE} {n : Nv} {P : Addr} {k : Mem → Prop} (J : List D → Mem → Prop) (hd : ∀ m, J [] m → k m) (hs : ∀ x xs m, J (x :: xs) m → ∀ kk : Mem → Prop, (∀ m', J xs m' → kk m') → turnD T tt te n P kk x m) :
    ∀ (xs : List D) (m : Mem), J xs m → compD T tt te n P k xs m
  | [], m, h => by rw [compD]; exact hd m h
  | x :: xs, m, h => by
    rw [compD]
    exact hs x xs m h _ fun m' h' => comp_step J hd hs xs m' h'
/-- the list behind one more turn -/
def addO (acc : List D) : Option D → List D
  | some d => acc ++ [d]
  | none => acc
/-- a comprehension whose turn is a function of the item and changes nothing else: f x = none leaves x out -/
theorem comp_fn {T : Tgt} {tt : RT} {te : RE} {n : Nv} {P : Addr} {k : Mem → Prop} {m : Mem} (f : D → Option D) : ∀ (xs acc : List D), acc.length + xs.length ≤ 16000000 →
    (∀ x ∈ xs, ∀ acc : List D, acc.length < sizeLine → ∀ kk : Mem → Prop, kk (mset m P (.lst (addO acc (f x)))) → turnD T tt te n P kk x (mset m P (.lst acc))) →
    k (mset m P (.lst (acc ++ xs.filterMap f))) → compD T tt te n P k xs (mset m P (.lst acc))
  | [], acc, _, _, hk => by
    rw [compD]
    simpa using hk
  | x :: xs, acc, hl, hs, hk => by
    rw [compD]
    rw [List.length_cons] at hl
    have hsz : sizeLine = 16777216 := sizeLine_eq
    refine hs x List.mem_cons_self acc (by omega) _ ?_
    have hl' : (addO acc (f x)).length + xs.length ≤ 16000000 := by
      cases f x <;> simp [addO] <;> omega
    refine comp_fn f xs _ hl' (fun y hy => hs y (List.mem_cons_of_mem _ hy)) ?_
    cases e : f x with
    | none =>
      rw [List.filterMap_cons_none e] at hk
      exact hk
    | some d =>
      rw [List.filterMap_cons_some e] at hk
      simpa [addO] using hk
theorem put_ok {m : Mem} {P : Addr} {acc : List D} {d : D} {kk : Mem → Prop} (hl : acc.length < sizeLine) (h : kk (mset m P (.lst (acc ++ [d])))) : ∃ a, mset m P (.lst acc) P = some (.lst a) ∧ a.length < sizeLine ∧ kk (mset (mset m P (.lst acc)) P (.lst (a ++ [d]))) :=
  ⟨acc, mset_same, hl, by rw [mset_mset]; exact h⟩
/-- .. the list it gives -/
theorem comp_go {T : Tgt} {tt : RT} {te : RE} {n : Nv} {m : Mem} {ds : List D} {k : Addr → Mem → Prop} (f : D → Option D) (hl : ds.length ≤ 16000000)
    (hs : ∀ P, m P = none → ∀ x ∈ ds, ∀ acc : List D, acc.length < sizeLine → ∀ kk : Mem → Prop, kk (mset m P (.lst (addO acc (f x)))) → turnD T tt te n P kk x (mset m P (.lst acc)))
    (hk : ∀ P, m P = none → k P (mset m P (.lst (ds.filterMap f)))) : ∀ P, m P = none → compD T tt te n P (k P) ds (mset m P (.lst [])) := fun P hP =>
  comp_fn f ds [] (by simpa using hl) (hs P hP) (by rw [List.nil_append]; exact hk P hP)
end DL

/-! DL9: what an operation gives on data of known make -/
namespace DL
open PySem PySem.Spec PyProof.Rows L2
section
variable {i j k : Int} {a b : List Nat} {c : Nat} {ds es fs : List D} {m : Mem} {q : QD} {x y z : D} {p p' : Addr} {bb b2 : Bool} {ns : List Int} {f : Bool → Bool} {C : Int → Int → Prop} {g : Int → Int → Int} {P : Int → Int → Bool} {R : List Nat → List Nat → Bool} {T : String} {lo hi : Option Int} {r : List D → Mem → Prop} {o : D} {ks ls : List (D × D)}
theorem ev0 : gAdd (.int i) (.int j) m q = q (.int (i + j)) m := rfl
theorem ev1 : gAdd (.str a) (.str b) m q = (a.length + b.length ≤ sizeLine ∧ q (.str (a ++ b)) m) := rfl
theorem ev2 : gAdd (.lst ds) (.lst es) m q = (∃ xs ys, lstOf (.lst ds) m = some xs ∧ lstOf (.lst es) m = some ys ∧ xs.length + ys.length ≤ sizeLine ∧ q (.lst (xs ++ ys)) m) := rfl
theorem ev3 : gAdd (.lst ds) (.ref p') m q = (∃ xs ys, lstOf (.lst ds) m = some xs ∧ lstOf (.ref p') m = some ys ∧ xs.length + ys.length ≤ sizeLine ∧ q (.lst (xs ++ ys)) m) := rfl
theorem ev4 : gAdd (.ref p) (.lst es) m q = (∃ xs ys, lstOf (.ref p) m = some xs ∧ lstOf (.lst es) m = some ys ∧ xs.length + ys.length ≤ sizeLine ∧ q (.lst (xs ++ ys)) m) := rfl
theorem ev5 : gAdd (.ref p) (.ref p') m q = (∃ xs ys, lstOf (.ref p) m = some xs ∧ lstOf (.ref p') m = some ys ∧ xs.length + ys.length ≤ sizeLine ∧ q (.lst (xs ++ ys)) m) := rfl
theorem ev6 : gSub (.int i) (.int j) m q = q (.int (i - j)) m := rfl
theorem ev7 : gI C g (.int i) (.int j) m q = (C i j ∧ q (.int (g i j)) m) := rfl
theorem ev8 : gMul (.int i) (.int j) m q = (CMul i j ∧ q (.int (i * j)) m) := rfl
theorem ev9 : gMul (.str a) (.int k) m q = ((-(2 ^ 63) ≤ k ∧ k < 2 ^ 62 ∧ a.length * k.toNat ≤ sizeLine) ∧ q (.str (reps k a)) m) := rfl
theorem ev10 : gMul (.lst ds) (.int k) m q = (∃ xs, lstOf (.lst ds) m = some xs ∧ (-(2 ^ 63) ≤ k ∧ k < 2 ^ 63 ∧ xs.length * k.toNat ≤ sizeLine) ∧ q (.lst (reps k xs)) m) := rfl
theorem ev11 : gMul (.ref p) (.int k) m q = (∃ xs, lstOf (.ref p) m = some xs ∧ (-(2 ^ 63) ≤ k ∧ k < 2 ^ 63 ∧ xs.length * k.toNat ≤ sizeLine) ∧ q (.lst (reps k xs)) m) := rfl
theorem ev12 : gCmp P R (.int i) (.int j) m q = q (.bl (P i j)) m := rfl
theorem ev13 : gCmp P R (.str a) (.str b) m q = q (.bl (R a b)) m := rfl
theorem ev14 : gIAdd (.int i) (.int j) m q = q (.int (i + j)) m := rfl
theorem ev15 : gIAdd (.str a) (.str b) m q = (a.length + b.length ≤ sizeLine ∧ q (.str (a ++ b)) m) := rfl
theorem ev16 : gEqB f (.int i) (.int j) m q = q (.bl (f (decide (i = j)))) m := rfl
theorem ev17 : gEqB f (.str a) (.str b) m q = q (.bl (f (decide (a = b)))) m := rfl
theorem ev18 : gEqB f (.bl bb) (.bl b2) m q = q (.bl (f (decide (bb = b2)))) m := rfl
theorem ev19 : gEqB f .non .non m q = q (.bl (f true)) m := rfl
theorem ev20 : gEqB f (.non) (.int j) m q = q (.bl (f false)) m := rfl
theorem ev21 : gEqB f (.non) (.str b) m q = q (.bl (f false)) m := rfl
theorem ev22 : gEqB f (.non) (.bl b2) m q = q (.bl (f false)) m := rfl
theorem ev23 : gEqB f (.int i) (.non) m q = q (.bl (f false)) m := rfl
theorem ev24 : gEqB f (.str a) (.non) m q = q (.bl (f false)) m := rfl
theorem ev25 : gEqB f (.bl bb) (.non) m q = q (.bl (f false)) m := rfl
theorem ev26 : gEqB f (.int i) (.str b) m q = q (.bl (f false)) m := rfl
theorem ev27 : gEqB f (.str a) (.int j) m q = q (.bl (f false)) m := rfl
theorem ev28 : gEqB f (.bl bb) (.str b) m q = q (.bl (f false)) m := rfl
theorem ev29 : gEqB f (.str a) (.bl b2) m q = q (.bl (f false)) m := rfl
theorem ev30 : gEq (.non) y m q = gEqB (fun b => b) (.non) y m q := rfl
theorem ev31 : gEq (.bl bb) y m q = gEqB (fun b => b) (.bl bb) y m q := rfl
theorem ev32 : gEq (.int i) y m q = gEqB (fun b => b) (.int i) y m q := rfl
theorem ev33 : gEq (.str a) y m q = gEqB (fun b => b) (.str a) y m q := rfl
theorem ev34 : gEq (.tup ds) y m q = gEqB (fun b => b) (.tup ds) y m q := rfl
theorem ev35 : gEq (.lst ds) y m q = gEqB (fun b => b) (.lst ds) y m q := rfl
theorem ev36 : gEq (.ref p) y m q = gEqB (fun b => b) (.ref p) y m q := rfl
theorem ev37 : gEq (.dct b2 ks) (.dct bb ls) m q = (b2 = false ∧ bb = false ∧ ks = ls ∧ (ks.all fun p => sca p.2) = true ∧ (ks.map fun p => keyOf p.1).Nodup ∧ q (.bl true) m) := rfl
theorem ev38 : gEqB f (.lst ds) (.lst es) m q = (fl 60 (seen (.lst ds) m) = true ∧ fl 60 (seen (.lst es) m) = true ∧ q (.bl (f (eqD (seen (.lst ds) m) (seen (.lst es) m)))) m) := rfl
theorem ev39 : gEqB f (.lst ds) (.tup es) m q = (fl 60 (seen (.lst ds) m) = true ∧ fl 60 (seen (.tup es) m) = true ∧ q (.bl (f (eqD (seen (.lst ds) m) (seen (.tup es) m)))) m) := rfl
theorem ev40 : gEqB f (.lst ds) (.ref p') m q = (fl 60 (seen (.lst ds) m) = true ∧ fl 60 (seen (.ref p') m) = true ∧ q (.bl (f (eqD (seen (.lst ds) m) (seen (.ref p') m)))) m) := rfl
theorem ev41 : gEqB f (.tup ds) (.lst es) m q = (fl 60 (seen (.tup ds) m) = true ∧ fl 60 (seen (.lst es) m) = true ∧ q (.bl (f (eqD (seen (.tup ds) m) (seen (.lst es) m)))) m) := rfl
theorem ev42 : gEqB f (.tup ds) (.tup es) m q = (fl 60 (seen (.tup ds) m) = true ∧ fl 60 (seen (.tup es) m) = true ∧ q (.bl (f (eqD (seen (.tup ds) m) (seen (.tup es) m)))) m) := rfl
theorem ev43 : gEqB f (.tup ds) (.ref p') m q = (fl 60 (seen (.tup ds) m) = true ∧ fl 60 (seen (.ref p') m) = true ∧ q (.bl (f (eqD (seen (.tup ds) m) (seen (.ref p') m)))) m) := rfl
theorem ev44 : gEqB f (.ref p) (.lst es) m q = (fl 60 (seen (.ref p) m) = true ∧ fl 60 (seen (.lst es) m) = true ∧ q (.bl (f (eqD (seen (.ref p) m) (seen (.lst es) m)))) m) := rfl
theorem ev45 : gEqB f (.ref p) (.tup es) m q = (fl 60 (seen (.ref p) m) = true ∧ fl 60 (seen (.tup es) m) = true ∧ q (.bl (f (eqD (seen (.ref p) m) (seen (.tup es) m)))) m) := rfl
theorem ev46 : gEqB f (.ref p) (.ref p') m q = (fl 60 (seen (.ref p) m) = true ∧ fl 60 (seen (.ref p') m) = true ∧ q (.bl (f (eqD (seen (.ref p) m) (seen (.ref p') m)))) m) := rfl
theorem ev47 : gEqB f (.lst ds) (.int j) m q = (fl 60 (seen (.lst ds) m) = true ∧ fl 60 (seen (.int j) m) = true ∧ q (.bl (f (eqD (seen (.lst ds) m) (seen (.int j) m)))) m) := rfl
theorem ev48 : gEqB f (.lst ds) (.str b) m q = (fl 60 (seen (.lst ds) m) = true ∧ fl 60 (seen (.str b) m) = true ∧ q (.bl (f (eqD (seen (.lst ds) m) (seen (.str b) m)))) m) := rfl
theorem ev49 : gEqB f (.lst ds) (.bl b2) m q = (fl 60 (seen (.lst ds) m) = true ∧ fl 60 (seen (.bl b2) m) = true ∧ q (.bl (f (eqD (seen (.lst ds) m) (seen (.bl b2) m)))) m) := rfl
theorem ev50 : gEqB f (.lst ds) (.non) m q = (fl 60 (seen (.lst ds) m) = true ∧ fl 60 (seen (.non) m) = true ∧ q (.bl (f (eqD (seen (.lst ds) m) (seen (.non) m)))) m) := rfl
theorem ev51 : gEqB f (.tup ds) (.int j) m q = (fl 60 (seen (.tup ds) m) = true ∧ fl 60 (seen (.int j) m) = true ∧ q (.bl (f (eqD (seen (.tup ds) m) (seen (.int j) m)))) m) := rfl
theorem ev52 : gEqB f (.tup ds) (.str b) m q = (fl 60 (seen (.tup ds) m) = true ∧ fl 60 (seen (.str b) m) = true ∧ q (.bl (f (eqD (seen (.tup ds) m) (seen (.str b) m)))) m) := rfl
theorem ev53 : gEqB f (.tup ds) (.bl b2) m q = (fl 60 (seen (.tup ds) m) = true ∧ fl 60 (seen (.bl b2) m) = true ∧ q (.bl (f (eqD (seen (.tup ds) m) (seen (.bl b2) m)))) m) := rfl
theorem ev54 : gEqB f (.tup ds) (.non) m q = (fl 60 (seen (.tup ds) m) = true ∧ fl 60 (seen (.non) m) = true ∧ q (.bl (f (eqD (seen (.tup ds) m) (seen (.non) m)))) m) := rfl
theorem ev55 : gEqB f (.ref p) (.int j) m q = (fl 60 (seen (.ref p) m) = true ∧ fl 60 (seen (.int j) m) = true ∧ q (.bl (f (eqD (seen (.ref p) m) (seen (.int j) m)))) m) := rfl
theorem ev56 : gEqB f (.ref p) (.str b) m q = (fl 60 (seen (.ref p) m) = true ∧ fl 60 (seen (.str b) m) = true ∧ q (.bl (f (eqD (seen (.ref p) m) (seen (.str b) m)))) m) := rfl
theorem ev57 : gEqB f (.ref p) (.bl b2) m q = (fl 60 (seen (.ref p) m) = true ∧ fl 60 (seen (.bl b2) m) = true ∧ q (.bl (f (eqD (seen (.ref p) m) (seen (.bl b2) m)))) m) := rfl
theorem ev58 : gEqB f (.ref p) (.non) m q = (fl 60 (seen (.ref p) m) = true ∧ fl 60 (seen (.non) m) = true ∧ q (.bl (f (eqD (seen (.ref p) m) (seen (.non) m)))) m) := rfl
theorem ev59 : gEqB f (.int i) (.lst es) m q = (fl 60 (seen (.int i) m) = true ∧ fl 60 (seen (.lst es) m) = true ∧ q (.bl (f (eqD (seen (.int i) m) (seen (.lst es) m)))) m) := rfl
theorem ev60 : gEqB f (.int i) (.tup es) m q = (fl 60 (seen (.int i) m) = true ∧ fl 60 (seen (.tup es) m) = true ∧ q (.bl (f (eqD (seen (.int i) m) (seen (.tup es) m)))) m) := rfl
theorem ev61 : gEqB f (.int i) (.ref p') m q = (fl 60 (seen (.int i) m) = true ∧ fl 60 (seen (.ref p') m) = true ∧ q (.bl (f (eqD (seen (.int i) m) (seen (.ref p') m)))) m) := rfl
theorem ev62 : gEqB f (.str a) (.lst es) m q = (fl 60 (seen (.str a) m) = true ∧ fl 60 (seen (.lst es) m) = true ∧ q (.bl (f (eqD (seen (.str a) m) (seen (.lst es) m)))) m) := rfl
theorem ev63 : gEqB f (.str a) (.tup es) m q = (fl 60 (seen (.str a) m) = true ∧ fl 60 (seen (.tup es) m) = true ∧ q (.bl (f (eqD (seen (.str a) m) (seen (.tup es) m)))) m) := rfl
theorem ev64 : gEqB f (.str a) (.ref p') m q = (fl 60 (seen (.str a) m) = true ∧ fl 60 (seen (.ref p') m) = true ∧ q (.bl (f (eqD (seen (.str a) m) (seen (.ref p') m)))) m) := rfl
theorem ev65 : gEqB f (.bl bb) (.lst es) m q = (fl 60 (seen (.bl bb) m) = true ∧ fl 60 (seen (.lst es) m) = true ∧ q (.bl (f (eqD (seen (.bl bb) m) (seen (.lst es) m)))) m) := rfl
theorem ev66 : gEqB f (.bl bb) (.tup es) m q = (fl 60 (seen (.bl bb) m) = true ∧ fl 60 (seen (.tup es) m) = true ∧ q (.bl (f (eqD (seen (.bl bb) m) (seen (.tup es) m)))) m) := rfl
theorem ev67 : gEqB f (.bl bb) (.ref p') m q = (fl 60 (seen (.bl bb) m) = true ∧ fl 60 (seen (.ref p') m) = true ∧ q (.bl (f (eqD (seen (.bl bb) m) (seen (.ref p') m)))) m) := rfl
theorem ev68 : gEqB f (.non) (.lst es) m q = (fl 60 (seen (.non) m) = true ∧ fl 60 (seen (.lst es) m) = true ∧ q (.bl (f (eqD (seen (.non) m) (seen (.lst es) m)))) m) := rfl
theorem ev69 : gEqB f (.non) (.tup es) m q = (fl 60 (seen (.non) m) = true ∧ fl 60 (seen (.tup es) m) = true ∧ q (.bl (f (eqD (seen (.non) m) (seen (.tup es) m)))) m) := rfl
theorem ev70 : gEqB f (.non) (.ref p') m q = (fl 60 (seen (.non) m) = true ∧ fl 60 (seen (.ref p') m) = true ∧ q (.bl (f (eqD (seen (.non) m) (seen (.ref p') m)))) m) := rfl
theorem ev71 : gEqB f (.int i) (.bl b2) m q = (fl 60 (seen (.int i) m) = true ∧ fl 60 (seen (.bl b2) m) = true ∧ q (.bl (f (eqD (seen (.int i) m) (seen (.bl b2) m)))) m) := rfl
theorem ev72 : gEqB f (.bl bb) (.int j) m q = (fl 60 (seen (.bl bb) m) = true ∧ fl 60 (seen (.int j) m) = true ∧ q (.bl (f (eqD (seen (.bl bb) m) (seen (.int j) m)))) m) := rfl
theorem ev73 : seen (.non) m = (.non : D) := rfl
theorem ev74 : seen (.bl bb) m = (.bl bb : D) := rfl
theorem ev75 : seen (.int i) m = (.int i : D) := rfl
theorem ev76 : seen (.str a) m = (.str a : D) := rfl
theorem ev77 : seen (.tup ds) m = (.tup ds : D) := rfl
theorem ev78 : seen (.lst ds) m = (.lst ds : D) := rfl
theorem ev79 : seen (.ref p) m = moSeen (.ref p) (m p) := rfl
theorem ev80 : moSeen o (some (.lst ds)) = (.lst ds : D) := rfl
theorem ev81 : moLst (some (.lst ds)) = some ds := rfl
theorem ev82 : lstOf (.lst ds) m = some ds := rfl
theorem ev83 : lstOf (.ref p) m = moLst (m p) := rfl
theorem ev84 : gInB f (.str [c]) (.str b) m q = q (.bl (f (decide (c ∈ b)))) m := rfl
theorem ev85 : gIsB f (.non) .non m q = q (.bl (f true)) m := rfl
theorem ev86 : gIsB f (.bl bb) .non m q = q (.bl (f false)) m := rfl
theorem ev87 : gIsB f (.int i) .non m q = q (.bl (f false)) m := rfl
theorem ev88 : gIsB f (.str a) .non m q = q (.bl (f false)) m := rfl
theorem ev89 : gIsB f (.tup ds) .non m q = q (.bl (f false)) m := rfl
theorem ev90 : gIsB f (.lst ds) .non m q = q (.bl (f false)) m := rfl
theorem ev91 : gIsB f (.ref p) .non m q = q (.bl (f false)) m := rfl
theorem ev92 : gIsB f (.bl bb) (.bl b2) m q = q (.bl (f (decide (bb = b2)))) m := rfl
theorem ev93 : gLen [.str a] m q = (a.length ≤ sizeLine ∧ q (.int a.length) m) := rfl
theorem ev94 : gLen [.tup ds] m q = q (.int ds.length) m := rfl
theorem ev95 : gLen [.scr ns] m q = q (.int ns.length) m := rfl
theorem ev96 : gLen [.lst ds] m q = q (.int ds.length) m := by simp [gLen, lstOf]
theorem ev97 : gLen [.ref p] m q = (∃ ds, moLst (m p) = some ds ∧ q (.int ds.length) m) := rfl
theorem ev98 : gAbs [.int i] m q = q (.int (if i < 0 then -i else i)) m := rfl
theorem ev99 : gInt [.int i] m q = q (.int i) m := rfl
theorem ev100 : gInt [.bl bb] m q = q (.int (if bb then 1 else 0)) m := rfl
theorem ev101 : gInt [.str a] m q = (∃ n, intText? ⟨a.toArray⟩ = some n ∧ a.length ≤ 640 ∧ q (.int n) m) := rfl
theorem ev102 : gStr [.int i] m q = (i.natAbs.log2 < 1920 ∧ q (.str (digs i)) m) := rfl
theorem ev103 : gMax2 [.int i, .int j] m q = q (.int (if j > i then j else i)) m := rfl
theorem ev104 : gMin2 [.int i, .int j] m q = q (.int (if j < i then j else i)) m := rfl
theorem ev105 : gAll [x] m q = (∃ ds bs, lstOf x m = some ds ∧ bls ds = some bs ∧ q (.bl (bs.all id)) m) := rfl
theorem ev106 : gAny [x] m q = (∃ ds bs, lstOf x m = some ds ∧ bls ds = some bs ∧ q (.bl (bs.any id)) m) := rfl
theorem ev107 : gTuple [.tup ds] m q = q (.tup ds) m := rfl
theorem ev108 : gTuple [.lst ds] m q = q (.tup ds) m := by simp [gTuple, lstOf]
theorem ev109 : gTuple [.ref p] m q = (∃ ds, moLst (m p) = some ds ∧ q (.tup ds) m) := rfl
theorem ev110 : gListA [.str a] m q = (a.length ≤ sizeLine ∧ q (.lst (chars a)) m) := rfl
theorem ev111 : gListA [.tup ds] m q = q (.lst (ds)) m := by simp [gListA, seqOf]
theorem ev112 : gListA [.lst ds] m q = q (.lst (ds)) m := by simp [gListA, seqOf, lstOf]
theorem ev113 : gListA [.scr ns] m q = q (.lst (ns.map D.int)) m := by simp [gListA, seqOf]
theorem ev114 : gListA [.ref p'] m q = (∃ ds, moLst (m p') = some ds ∧ q (.lst (ds)) m) := rfl
theorem ev115 : gListAO [.str a] m q = (a.length ≤ sizeLine ∧ (∀ p, m p = none → q (.ref p) (mset m p (.lst (chars a))))) := rfl
theorem ev116 : gListAO [.tup ds] m q = (∀ p, m p = none → q (.ref p) (mset m p (.lst (ds)))) := by simp [gListAO, seqOf]
theorem ev117 : gListAO [.lst ds] m q = (∀ p, m p = none → q (.ref p) (mset m p (.lst (ds)))) := by simp [gListAO, seqOf, lstOf]
theorem ev118 : gListAO [.scr ns] m q = (∀ p, m p = none → q (.ref p) (mset m p (.lst (ns.map D.int)))) := by simp [gListAO, seqOf]
theorem ev119 : gListAO [.ref p'] m q = (∃ ds, moLst (m p') = some ds ∧ (∀ p, m p = none → q (.ref p) (mset m p (.lst (ds))))) := rfl
theorem ev120 : seqOf (.tup ds) m = some ds := rfl
theorem ev121 : seqOf (.lst ds) m = some ds := rfl
theorem ev122 : seqOf (.ref p) m = moLst (m p) := rfl
theorem ev123 : gIsi [x, .ty T] m q = (∃ t, tyD x m = some t ∧ T ∈ ["str", "int", "bool", "list", "tuple", "dict"] ∧ q (.bl (isTy t T)) m) := rfl
theorem ev124 : tyD (.non) m = some "NoneType" := rfl
theorem ev125 : tyD (.bl bb) m = some "bool" := rfl
theorem ev126 : tyD (.int i) m = some "int" := rfl
theorem ev127 : tyD (.str a) m = some "str" := rfl
theorem ev128 : tyD (.tup ds) m = some "tuple" := rfl
theorem ev129 : tyD (.lst ds) m = some "list" := rfl
theorem ev130 : tyD (.dct false ks) m = some "dict" := rfl
theorem ev131 : tyD (.ref p) m = tyL (moLst (m p)) := rfl
theorem ev132 : tyL (some ds) = some "list" := rfl
theorem ev133 : gIx (.str a) (.int i) m q = (a.length ≤ sizeLine ∧ ∃ c, atI a i = some c ∧ q (.str [c]) m) := rfl
theorem ev134 : gIx (.tup ds) (.int i) m q = (∃ d, atI ds i = some d ∧ q d m) := rfl
theorem ev135 : gIx (.lst ds) (.int i) m q = (∃ d, atI ds i = some d ∧ q d m) := by simp [gIx, lstOf]
theorem ev136 : gIx (.ref p) (.int i) m q = (∃ ds, moLst (m p) = some ds ∧ ∃ d, atI ds i = some d ∧ q d m) := by simp [gIx, lstOf]
theorem ev137 : gSl (.str a) lo hi m q = (a.length ≤ sizeLine ∧ q (.str (cut a lo hi)) m) := rfl
theorem ev138 : gSl (.tup ds) lo hi m q = (¬ (HT.sIx ds.length 0 lo = 0 ∧ HT.sIx ds.length ds.length hi = ds.length) ∧ q (.tup (cut ds lo hi)) m) := rfl
theorem ev139 : gSl (.lst ds) lo hi m q = q (.lst (cut ds lo hi)) m := by simp [gSl, lstOf]
theorem ev140 : gSl (.ref p) lo hi m q = (∃ ds, moLst (m p) = some ds ∧ q (.lst (cut ds lo hi)) m) := rfl
theorem ev141 : gNeg (.int i) m q = q (.int (-i)) m := rfl
theorem ev142 : truD .non m = some false := rfl
theorem ev143 : truD (.bl bb) m = some bb := rfl
theorem ev144 : truD (.int i) m = some (i != 0) := rfl
theorem ev145 : truD (.tup ds) m = some (!ds.isEmpty) := rfl
theorem ev146 : truD (.lst ds) m = some (!ds.isEmpty) := rfl
theorem ev147 : truD (.ref p) m = (moLst (m p)).map fun ds => !ds.isEmpty := rfl
theorem ev148 : gFrz (.ref p) m q = (∃ ds, m p = some (.lst ds) ∧ q (.lst ds) (mdel m p)) := rfl
theorem ev149 : gFrz (.lst ds) m q = q (.lst ds) m := rfl
theorem ev150 : gFrz (.tup ds) m q = q (.tup ds) m := rfl
theorem ev151 : gFrz (.int i) m q = q (.int i) m := rfl
theorem ev152 : gFrz (.str a) m q = q (.str a) m := rfl
theorem ev153 : gFrz (.bl bb) m q = q (.bl bb) m := rfl
theorem ev154 : gFrz (.non) m q = q (.non) m := rfl
theorem ev155 : gAllOf (.lst ds) m r = r ds m := rfl
theorem ev156 : gAllOf (.tup ds) m r = r ds m := rfl
theorem ev157 : gAllOf (.str a) m r = r (chars a) m := rfl
theorem ev158 : gAllOf (.ref p) m r = (∃ ds, m p = some (.lst ds) ∧ r ds (mdel m p)) := rfl
theorem ev159 : gFmt (.str a) m q = (a.length ≤ sizeLine ∧ q (.str a) m) := rfl
theorem ev160 : gFmt (.int i) m q = (i.natAbs.log2 < 1920 ∧ q (.str (digs i)) m) := rfl
theorem ev161 : addO ds (some x) = ds ++ [x] := rfl
theorem ev162 : addO ds none = ds := rfl
theorem at_0 {α : Type} {x0 : α} {l : List α} : atI (x0 :: l) 0 = some x0 := by
  unfold atI ixN
  rw [if_pos (by decide), if_pos (by simp only [List.length_cons]; omega)]
  rfl
theorem at_1 {α : Type} {x0 x1 : α} {l : List α} : atI (x0 :: x1 :: l) 1 = some x1 := by
  unfold atI ixN
  rw [if_pos (by decide), if_pos (by simp only [List.length_cons]; omega)]
  rfl
theorem at_2 {α : Type} {x0 x1 x2 : α} {l : List α} : atI (x0 :: x1 :: x2 :: l) 2 = some x2 := by
  unfold atI ixN
  rw [if_pos (by decide), if_pos (by simp only [List.length_cons]; omega)]
  rfl
theorem at_3 {α : Type} {x0 x1 x2 x3 : α} {l : List α} : atI (x0 :: x1 :: x2 :: x3 :: l) 3 = some x3 := by
  unfold atI ixN
  rw [if_pos (by decide), if_pos (by simp only [List.length_cons]; omega)]
  rfl
theorem at_4 {α : Type} {x0 x1 x2 x3 x4 : α} {l : List α} : atI (x0 :: x1 :: x2 :: x3 :: x4 :: l) 4 = some x4 := by
  unfold atI ixN
  rw [if_pos (by decide), if_pos (by simp only [List.length_cons]; omega)]
  rfl
theorem at_5 {α : Type} {x0 x1 x2 x3 x4 x5 : α} {l : List α} : atI (x0 :: x1 :: x2 :: x3 :: x4 :: x5 :: l) 5 = some x5 := by
  unfold atI ixN
  rw [if_pos (by decide), if_pos (by simp only [List.length_cons]; omega)]
  rfl
theorem at_6 {α : Type} {x0 x1 x2 x3 x4 x5 x6 : α} {l : List α} : atI (x0 :: x1 :: x2 :: x3 :: x4 :: x5 :: x6 :: l) 6 = some x6 := by
  unfold atI ixN
  rw [if_pos (by decide), if_pos (by simp only [List.length_cons]; omega)]
  rfl
theorem at_7 {α : Type} {x0 x1 x2 x3 x4 x5 x6 x7 : α} {l : List α} : atI (x0 :: x1 :: x2 :: x3 :: x4 :: x5 :: x6 :: x7 :: l) 7 = some x7 := by
  unfold atI ixN
  rw [if_pos (by decide), if_pos (by simp only [List.length_cons]; omega)]
  rfl
theorem ix_0 : ixN 5 0 = some 0 := rfl
theorem ix_1 : ixN 5 1 = some 1 := rfl
theorem ix_2 : ixN 5 2 = some 2 := rfl
theorem ix_3 : ixN 5 3 = some 3 := rfl
theorem ix_4 : ixN 5 4 = some 4 := rfl
theorem nm_T {i : Nat} {d : D} {n : Nv} {k : Nv → Prop} : setT (.nm i) d n k = k (n.set i (some d)) := rfl
theorem tp_T {js : List Nat} {ds : List D} {n : Nv} {k : Nv → Prop} : setT (.tp js) (.tup ds) n k = (ds.length = js.length ∧ k (setAll js ds n)) := by simp [setT]
end
end DL

/-! DL10: exceptions of the program, raised -/
namespace DL
open PySem PySem.Spec PyProof.Rows L2
/-! ### their own way of being made -/
section
variable {X : Cx} {e : Expr} {es : List Expr} {ta : TA} {p1 p2 pos : Pos}
/-- what the text says of the class whose way of making is asked for -/
structure BaseK (K : PySem.W.Frag) (mg : Str → Option Value) (R : Str) : Prop where
  ex : ∃ C, mg R = some (.ref C) ∧ PySem.W.keepIn K (.ref C) = true ∧ ClX.CRead K C (.type "type") ∧ PySem.W.findCls K (.ref C) (.type "type") "__init__" = some (.val (.builtin "ValueError.__init__"))
theorem pe_base {R : Str} {pl : Sem Bool} (B : BaseK X.K X.mg R) (hg : Gl X R) (hdb : (R == ("__debug__" : Str)) = false) (ha : PA X (e :: es) ta)
    (hc : eval (.Call (.Attribute (.Name R p1) "__init__" p2) (e :: es) [] pos) X.env = (do
      let o ← eval (.Name R p1) X.env
      standAt p2.atName
      let (f, first) ← holding [o] (getMethod o "__init__" pl)
      callWith pos f first (backTo pos (starEach (e :: es) X.env)) (backToKw pos (keywordEach [] X.env))) := by rfl)
    (he : starEach (e :: es) X.env = (false, eval e X.env) :: starEach es X.env := by rfl) (hpl : (backTo pos (starEach es X.env)).any (·.1) = false := by rfl) :
    PE X (.Call (.Attribute (.Name R p1) "__init__" p2) (e :: es) [] pos) (tVeI X.K ta) := by
  obtain ⟨C, hm, hk, cr, vV⟩ := B.ex
  refine ⟨fun pins s σ H Q I h => ?_⟩
  refine PySem.W.methodCall_KW (ld_glob I hg hm ?_ hdb) hc
  refine PySem.W.method_cls I.kIn cr.ga (PySem.W.cls_value I.kIn cr.rd vV (by decide +kernel) ?_)
  refine PyProof.Rows.callWith_method1 (thn (ha.run pos pins _ σ H _ (I.tok _) h) fun us s1 w => ?_) he hpl
  obtain ⟨vs, H1, I1, r1, a, C, ws, ev, hl, T, ea, q⟩ := w
  subst ev
  cases r1 with
  | @cons _ u0 _ ur ra rw' =>
    obtain rfl : u0 = Value.ref a := ra
    have hn : ur.length ≤ sizeLine := by
      have := Paired.length rw'
      rw [sizeLine_eq]
      omega
    exact oinit_ok T I1 ea hn fun s' J => ⟨.non, H1, J, rfl, q⟩
end
/-- .. of a class whose __init__ keeps what it is given -/
def spInit (K : PySem.W.Frag) : Sp := fun vs H Q _ => ∃ (a C : Addr) (y : V), vs = [.ref a, y] ∧ OexC K C ∧ PySem.W.findIn K (.ref C) "given" = some none ∧ H a = some (exo a C none) ∧ ∀ dx, H dx = none → dx ≠ a → Q .non (upd (upd H dx (exd dx [("given", y)])) a (exo a C (some dx)))
theorem len_init {K : PySem.W.Frag} : ∀ vs H Q E, spInit K vs H Q E → vs.length = ["self", "given"].length := fun vs H Q E ⟨a, C, y, e, _⟩ => by rw [e]; rfl
/-- what the text says of an exception of the program that keeps what it is given -/
structure ExcD (P : Program) (w : World) (K : PySem.W.Frag) (mg : Str → Option Value) (base : Heap) (k : Nat) (nm : Str) : Prop where
  ex : ∃ (C fI : Addr) (fd : FuncData), OexC K C ∧ PySem.W.findIn K (.ref C) "__init__" = some (some (.ref fI)) ∧ PySem.W.typeIn K (.ref fI) = some (.type "function") ∧ FnOk P w K mg base (L2.CX P w) k fI fd ["self", "given"] (spInit K) ∧ Binds K fd ["self", "given"] [] ∧
    mg nm = some (.ref C) ∧ ClsK K nm (.ref C) ∧ PySem.W.findIn K (.ref C) "given" = some none
section
variable {X : Cx} {W : WX} {e : Expr} {re : RE} {p pos pos' : Pos}
/-- raise X(e) -/
def rRaise (nm : Str) (r : RE) : RS := fun xd _ n m => r xd n m fun d m1 => xd nm [("given", d)] n m1
theorem ds_raise {nm : Str} {j k : Nat} (hc : X.calm = true) (tk : Takes X W) (c : ExcD X.prog X.w X.K X.mg X.base k nm) (hr : Room j X.A) (hk : k + 1 ≤ j) (hg : Gl X nm) (he : DE X W e re) (hdb : (nm == ("__debug__" : Str)) = false := by decide)
    (hst : starEach [e] X.env = [(false, eval e X.env)] := by rfl) : DS X W (.Raise (some (.Call (.Name nm p) [e] [] pos')) none pos) (rRaise nm re) := by
  obtain ⟨C, fI, fd, T, iC, tI, F, B, hm, cl, hf⟩ := c.ex
  refine PS.imp (ps_raise hc tk (pmk_oex T iC tI F (hr.mono hk) B .nil passL hg hm (pa_cons he pa_nil hst) hdb hst rfl)) fun D t H ⟨n, m, G, xd, en, hn, hs, hl, hq, L⟩ => ?_
  refine ⟨n, m, G, xd, _, hn, hs, hl, hq, fun d m1 v G1 H1 e1 s1 r1 k1 => ⟨by simp, fun a ha => ?_⟩⟩
  refine ⟨a, C, v, rfl, T, hf, upd_same, fun dx hdx ne => ?_⟩
  have hdx1 : H1 dx = none := by
    rw [upd_ne ne] at hdx
    exact hdx
  refine ⟨rfl, dx, [("given", v)], upd_same, by rw [upd_ne ne, upd_same], hdx1, ?_⟩
  have eH : upd (del (upd (upd (upd H1 a (exo a C none)) dx (exd dx [("given", v)])) a (exo a C (some dx))) a) dx (.xd [("given", v)]) = upd H1 dx (.xd [("given", v)]) := by
    funext b
    by_cases hb : b = dx
    · rw [hb, upd_same, upd_same]
    · rw [upd_ne hb, upd_ne hb]
      by_cases hba : b = a
      · rw [hba, del_same, ha]
      · rw [del_ne hba, upd_ne hba, upd_ne hb, upd_ne hba]
  rw [eH]
  obtain ⟨s2, e2⟩ := s1.laid hdx1 (.xd [("given", v)])
  exact hl nm (.ref C) [("given", d)] (some dx) n m1 t _ _ (e1.trans e2) s2 (hn.mono (e1.trans e2)) (.yes cl upd_same (.cons (r1.mono e2) .nil)) k1
end
end DL

/-! DL11: try with several clauses, each with a name or without; what a caught exception tells -/
namespace DL
open PySem PySem.Spec PyProof.Rows L2
/-- one clause: its class, the slot of its name, what its suite reads -/
abbrev Cl := Value × Option Nat × (Addr → Value → Option Addr → TS)
def bindO (i : Option Nat) (v : Option V) (σ : L2.St) : L2.St := i.elim σ fun j => σ.set j v
def endO (i : Option Nat) (D : Ends) : Ends := { nx := fun σ H => D.nx (bindO i none σ) H, rt := D.rt, bk := fun σ H => D.bk (bindO i none σ) H, ct := fun σ H => D.ct (bindO i none σ) H }
def wCls (K : PySem.W.Frag) (Wout : WX) (D : Ends) : List Cl → WX
  | [] => Wout
  | (c, i, ts) :: r => fun cls d σ H => ∃ b, PySem.W.exmOne K cls c = some b ∧ (b = true → ∀ a, H a = none → ts a cls d (endO i D) (bindO i (some (.ref a)) σ) H) ∧ (b = false → wCls K Wout D r cls d σ H)
def nameOk (X : Cx) (o : Option Str) (i : Option Nat) : Prop := (o = none ∧ i = none) ∨ ∃ n j, o = some n ∧ i = some j ∧ X.N[j]? = some n ∧ X.env.kindOf n = some .local
inductive ClsOk (X : Cx) : List ExceptHandler → List Cl → Prop
  | nil : ClsOk X [] []
  | cons {x : Str} {c : Value} {o : Option Str} {i : Option Nat} {ts : Addr → Value → Option Addr → TS} {st : Stmt} {sts : List Stmt} {np hp : Pos} {hs : List ExceptHandler} {l : List Cl} (hc : Names X x c) (ho : nameOk X o i)
      (su : ∀ (a : Addr) (oe : Obj) (cls : Value) (d : Option Addr) (pn : List (Addr × Obj)), Zc cls d oe → (∃ vs, oe.data = .fields vs) → PSs (X.suite a ((a, oe) :: pn)) (st :: sts) (ts a cls d)) (r : ClsOk X hs l) :
      ClsOk X (.ExceptHandler (some (.Name x np)) o (st :: sts) hp :: hs) ((c, i, ts) :: l)
section
variable {X : Cx} {pins : List (Addr × Obj)} {σ : L2.St} {H : Hp} {s s' : Shared} {a : Addr} {cls : Value} {d : Option Addr} {B h3 : Heap} {Wout : WX} {D : Ends}
theorem not_frame {l : List Env} {h : Heap} {o : Obj} {vs : Array Value} (ff : h.FunFrames B l) (e : h.get? a = some o) (dd : o.data = .fields vs) : a ∉ frs l := fun hm => by
  obtain ⟨_, o', e', hn⟩ := ff.mem hm
  have z := Option.some.inj (e.symm.trans e')
  subst z
  exact hn _ dd
/-- the clauses, one after the other -/
theorem clauses_go (hs : X.stack = X.env :: X.outer) (hf : X.env.frame = some X.env.locals) (hN : X.N.Nodup) (tk : Takes X Wout) (ok : X.Ok) {sI : Shared} (J : Inv X pins σ H sI)
    (nb : ∀ b o, sI.heap.get? b = some o → b ∉ frs X.stack → B.get? b = some o) (up : sI.heap.UpToSlots h3) (os : s'.os = sI.os) (ag : AllBare s'.gens) (na : H a = none) (fl : HandSPX.FlyingZ B (X.env :: X.outer) a (Zc cls d) h3) :
    ∀ {hds : List ExceptHandler} {l : List Cl}, ClsOk X hds l → wCls X.K Wout D l cls d σ H → wpAny (model X.prog X.w) X.A (handleBy (.ref a) X.env hds) (SP X pins D) X.xe { s' with heap := h3 } := by
  have J3 : Inv X pins σ H { s' with heap := h3 } := J.landed (s' := { s' with heap := h3 }) nb fl.1 up os ag
  obtain ⟨oe3, vs3, he3, hz3, hd3⟩ := fl.there
  have nfr := not_frame fl.2.2.1 he3 hd3
  have nL : a ≠ X.env.locals := fun z => nfr (List.mem_filterMap.mpr ⟨X.env, List.mem_cons_self, by rw [hf, z]⟩)
  have nF : a ∉ X.fs := fun hm => by
    obtain ⟨e, he, q⟩ := List.mem_filterMap.mp hm
    exact nfr (List.mem_filterMap.mpr ⟨e, List.mem_cons_of_mem _ he, q⟩)
  have S3 := J3.suite he3 hd3 na nL nF
  intro hds l hk
  induction hk with
  | nil =>
    intro w
    obtain ⟨k1, k2, k3, oe, vs, T, oT, ts', he, hz, hd, h1, hr⟩ := id fl
    refine wpAny_handleBy_nil ?_
    unfold PySem.passOn
    refine wpAny_bind (wpAny_field he hd h1 ?_)
    rw [if_neg (show ¬ ((Value.ref T == Value.none) = true) by simp)]
    have fin : wpAny (model X.prog X.w) X.A (setFlight (.ref a) X.env.frame) (fun _ s4 => wpAny (model X.prog X.w) X.A (throw (.ref a) : Sem Flow) (SP X pins D) X.xe s4) X.xe { s' with heap := h3 } := by
      rw [hf]
      refine HandSPX.setFlight_upZ (s := { s' with heap := h3 }) fl fun h4 hh4 up4 => wpAny_throw (tk _ _ ?_)
      refine ⟨a, B, sI, pins, σ, H, cls, d, rfl, J, nb, up.trans up4, ?_, na, os, ag, w⟩
      exact .inr (.inr (by rw [hs]; exact hh4))
    first
      | exact wpAny_bind (wpAny_pure (wpAny_bind fin))
      | exact wpAny_bind fin
  | @cons x c o i ts st sts np hp hs2 l2 hc ho su r ih =>
    rintro ⟨b, hb, hyes, hno⟩
    refine wpAny_handleBy_cons (codeAny_handlers_test ?_) (by intro q; cases q)
    have LT : PySem.W.Looks (model X.prog X.w) h3 (typeOf (.ref a)) cls := fun A Q E s k q => wpAny_typeOf_ref (k _ _ he3) (hz3.1.symm ▸ q)
    have LM := PySem.W.exm_one (M := model X.prog X.w) J3.kIn LT hb
    have test : ∀ {Q : Value → Shared → Prop} {E : Value → Shared → Prop}, Q c { s' with heap := h3 } → wpAny (model X.prog X.w) (X.A.mark (some (.ref a))) (eval (.Name x np) X.env) Q E { s' with heap := h3 } := fun {Q E} q => by
      rcases hc with ⟨hg, hdb, hm | ⟨hm, hv, hnn⟩⟩
      · exact ld_glob (X := X.suite a ((a, oe3) :: (X.pn ++ pins))) S3 hg hm q hdb
      · exact ld_blt (X := X.suite a ((a, oe3) :: (X.pn ++ pins))) S3 hg hm hv q hnn hdb
    refine test (LM.here ?_)
    cases b with
    | false => exact ih (hno rfl)
    | true =>
      rcases ho with ⟨rfl, rfl⟩ | ⟨n, j, rfl, rfl, hj, hl⟩
      · refine codeAny_handlers_suite ?_
        refine HandSPX.lands_againZ (s := { s' with heap := h3 }) fl fun h4 fl4 up4 => ?_
        have J4 : Inv X pins σ H { s' with heap := h4 } := J.landed (s' := { s' with heap := h4 }) nb fl4.1 (up.trans up4) os ag
        obtain ⟨oe4, vs4, he4, hz4, hd4⟩ := fl4.there
        refine wpAny_mono ((su a oe4 cls d (X.pn ++ pins) hz4 ⟨_, hd4⟩).run [] _ _ H _ (J4.suite he4 hd4 na nL nF) (hyes rfl a na)) (fun f s6 q => ?_) (fun _ _ z => z.elim)
        cases f <;> rcases q with ⟨x1, x2, q⟩ <;> first
          | exact ⟨_, _, q.1.unsuite ok, q.2⟩
          | (obtain ⟨x3, q1, q2, q3⟩ := q; exact ⟨_, _, _, q1.unsuite ok, q2, q3⟩)
      · refine codeAny_handlers_suite_as ?_
        refine HandSPX.lands_againZ (s := { s' with heap := h3 }) fl fun h4 fl4 up4 => ?_
        have J4 : Inv X pins σ H { s' with heap := h4 } := J.landed (s' := { s' with heap := h4 }) nb fl4.1 (up.trans up4) os ag
        obtain ⟨oe4, vs4, he4, hz4, hd4⟩ := fl4.there
        refine store_ok (X := X.suite a ((a, oe4) :: (X.pn ++ pins))) (v := .ref a) (J4.suite he4 hd4 na nL nF) hN hj (.inl hl) rfl (fun s5 S5 => ?_) (.inr hl)
        refine wpAny_mono ((su a oe4 cls d (X.pn ++ pins) hz4 ⟨_, hd4⟩).run [] s5 _ H _ S5 (hyes rfl a na)) (fun f s6 q => ?_) (fun _ _ z => z.elim)
        have gone : ∀ {σ6 : L2.St} {H6 : Hp} {Q : Shared → Prop}, Inv (X.suite a ((a, oe4) :: (X.pn ++ pins))) [] σ6 H6 s6 → (∀ s7, Inv X pins (σ6.set j none) H6 s7 → Q s7) →
            wpAny (model X.prog X.w) X.A (do bindName X.env n .none; unbindBehindTheSuite X.env n hp) (fun _ s7 => Q s7) X.xe s6 := fun S6 hq => gone_ok (S6.unsuite ok) hN hj hl hq
        cases f <;> rcases q with ⟨x1, x2, q⟩ <;> first
          | exact gone q.1 fun s7 J7 => ⟨_, _, J7, q.2⟩
          | (obtain ⟨x3, q1, q2, q3⟩ := q; exact gone q1 fun s7 J7 => ⟨_, _, _, J7, q2, q3⟩)
variable {body : List Stmt} {h₀ : ExceptHandler} {hds : List ExceptHandler} {l : List Cl} {pos : Pos} {tb : WX → TS}
theorem ps_try_cls (hs : X.stack = X.env :: X.outer) (hf : X.env.frame = some X.env.locals) (hN : X.N.Nodup) (tk : Takes X Wout)
    (hb : ∀ (W : WX) (pn : List (Addr × Obj)) (xe : Value → Shared → Prop), Takes (X.tr pn xe) W → PassesOwn (model X.prog X.w) X.A X.env xe → PSs (X.tr pn xe) body (tb W)) (hh : ClsOk X (h₀ :: hds) l) :
    PS X (.Try body (h₀ :: hds) [] [] pos) (fun D σ H => tb (wCls X.K Wout D l) D σ H) := by
  refine ⟨fun pins s σ H D I h => ?_⟩
  have ok := I.ok
  have hfr : X.A.frames = some (X.env :: X.outer) := ok.frames.trans (congrArg some hs)
  refine wpAny_Try_except (wpAny_mono ((hb (wCls X.K Wout D l) (X.pn ++ pins) (fun e s₁ => wpAny (model X.prog X.w) X.A (noteFrame e X.env) (fun _ s₂ => wpAny (model X.prog X.w) X.A (setFlight e none) (fun _ s₃ =>
    wpAny (model X.prog X.w) X.A (handleBy e X.env (h₀ :: hds)) (SP X pins D) X.xe s₃) X.xe s₂) X.xe s₁) (fun u s' xx => ?_) PassesOwn.looking).run [] s σ H D (I.toTry _) h) (fun f s1 q => ?_) fun e s1 he => he)
  · obtain ⟨a, B, sI, pins', σ', H', cls, d, rfl, J', nb, up, sky, na, os, ag, w⟩ := xx
    show wpAny (model X.prog X.w) X.A (noteFrame (.ref a) X.env) _ _ _
    refine Sky.land Zc.steady hfr hf (show Sky B (X.env :: X.outer) a (Zc cls d) X.env.locals s'.heap by rw [← hs]; exact sky) fun h3 fl3 up3 => ?_
    exact clauses_go hs hf hN tk ok (J'.ofTry ok) nb (up.trans up3) os ag na fl3 hh w
  · cases f <;> rcases q with ⟨x1, x2, q⟩ <;> first
      | exact wpAny_execs_nil ⟨x1, x2, q.1.ofTry ok, q.2⟩
      | exact ⟨x1, x2, q.1.ofTry ok, q.2⟩
      | (obtain ⟨x3, q1, q2, q3⟩ := q; exact ⟨x1, x2, x3, q1.ofTry ok, q2, q3⟩)
end
end DL

/-! DL12: try over data; e.given; isinstance of a caught exception -/
namespace DL
open PySem PySem.Spec PyProof.Rows L2
section
open PySem.W PySem.Calls
variable {prog : Program} {w : World} {A : Around} {E : Value → Shared → Prop} {s : Shared} {K : Frag} {x Dc : Addr} {ox : Obj} {od : Option Obj}
/-- x.__class__ of an exception, with a dict of its own or without -/
theorem exc_class {Q : Option Value → Shared → Prop} (C : ExcC K Dc) (Y : K.In s.heap) (I : InstAt s.heap x ox Dc od) (h : Q (some (.ref Dc)) { s with toks := s.toks + 1 }) : wpAny (model prog w) A (getAttr? (.ref x) "__class__") Q E s := by
  have hc : (clsIn K Dc).isSome = true := by
    obtain ⟨cd, hc, _⟩ := any_some C.hd
    rw [hc]
    rfl
  have hf : findObj K Dc od "__class__" = some (.bind (.builtin "getset_descriptor.__get__") (.builtin "object.__class__")) := by
    obtain ⟨cd, e⟩ := Option.isSome_iff_exists.mp hc
    unfold findObj
    rw [e, Option.bind_some, C.ha, Option.bind_some]
    simp [C.hn, C.ht]
  obtain ⟨hp, g, d, t, os⟩ := s
  have T0 := I.type (M := model prog w)
  have T1 := looks_findIn (M := model prog w) Y C.hg
  have T2 := looks_findIn (M := model prog w) Y C.hk
  have T3 := looks_find (M := model prog w) Y I hf
  have isB : Looks (model prog w) hp (isInstance (.ref x) (.type "BaseException")) true := T0.andThen (looks_subIn Y C.hs)
  have z2 : (Value.builtin "BaseException.__getattribute__" == .builtin "object.__getattribute__") = false := by decide +kernel
  have z1 : (onTheHeap (.ref Dc) && Value.builtin "BaseException.__getattribute__" == .builtin "object.__getattribute__") = false := z2.symm ▸ Bool.and_false _
  unfold getAttr? getAttrBy?; unfold getAttrBy
  refine wpAny_bind (wpAny_mkText (wpAny_bind (wpAny_attempt (wpAny_holding (wpAny_bind (T0.at (wpAny_bind (T1.at (show wpAny _ _ (if (onTheHeap (.ref Dc) && Value.builtin "BaseException.__getattribute__" == .builtin "object.__getattribute__") = true then _ else _) _ _ _ from ?_)))))))))
  rw [z1, if_neg Bool.false_ne_true]
  unfold getAttrByItsOwn; unfold hookBefore
  refine wpAny_bind ?_; rw [if_pos (show onTheHeap (Value.ref Dc) = true from rfl)]; refine T2.at ?_
  refine wpAny_bind (wpAny_attempt (wpAny_holding ?_)); unfold callGetattribute
  rw [show (false && onTheHeap (Value.builtin "BaseException.__getattribute__")) = false from rfl, if_neg Bool.false_ne_true]; unfold boundAndCalled
  rw [PySem.F.excAttr_ValueError.ga.bind (.ref x)]; refine wpAny_bind (wpAny_pure (show wpAny _ _ (call (.builtin "BaseException.__getattribute__") [.ref x, .str "__class__" t]) _ _ _ from ?_))
  refine wpAny_call (codeAny_call_builtin PySem.F.excAttr_ValueError.ga.plain PySem.F.entry_bexc_ga (@check_slot (model prog w) _ _ ⟨hp, g, d, t + 1, os⟩ "BaseException.__getattribute__" "BaseException" "__getattribute__" (.ref x) [.str "__class__" t] [] _ (by decide +kernel) (by decide +kernel) isB (PySem.F.args_bexc_ga (.ref x) (.str "__class__" t)) ?_))
  unfold Builtin.«object.__getattribute__»; refine wpAny_bind (wpAny_of_eq (a := ((Value.ref x : Value), [Value.str "__class__" t])) (by first | rfl | (simp only [slotArgs]; rfl)) (wpAny_bind (wpAny_pure (wpAny_bind (T0.at (wpAny_bind (T3.at ?_)))))))
  refine (show wpAny _ _ (holding [Value.builtin "object.__class__"] (call (.builtin "getset_descriptor.__get__") [.builtin "object.__class__", .ref x, .ref Dc]) >>= ret) _ _ _ from ?_)
  refine wpAny_bind (wpAny_holding (wpAny_call (class_get (s := ⟨hp, g, d, t + 1, os⟩) (ox := ox) (od := od) Y I C.hm (wpAny_pure (show wpAny _ _ (handedOut (.ref Dc)) _ _ _ from ?_)))))
  rw [handedOut_of (v := .ref Dc) rfl]
  first
    | exact wpAny_pure (wpAny_pure h)
    | exact wpAny_pure h
    | exact wpAny_pure (wpAny_bind (wpAny_pure (wpAny_pure h)))
theorem kitx_exc (C : ExcC K Dc) : KitX K (.ref x) (.ref Dc) (fun h => ∃ od, InstAt h x ox Dc od) where
  ty := fun _ _ _ ⟨_, I⟩ => I.type
  it := fun _ _ Y _ => by
    obtain ⟨cd, hcd, _⟩ := any_some C.hd
    unfold clsIn at hcd
    split at hcd
    · rename_i ho
      exact fun A' Q' E' s' k q => by unfold isType loadHead; exact wpAny_bind (wpAny_loadPart (k _ _ (Y _ _ ho)) (wpAny_pure q))
    · cases hcd
  ne := fun h tp dd its n sl Y htp => by
    obtain ⟨cd, hcd, _⟩ := any_some C.hd
    refine Bool.eq_false_iff.mpr fun q => ?_
    have e : Dc = tp := Value.ref.inj (beq_iff_eq.mp q)
    subst e; unfold clsIn at hcd
    split at hcd
    · rename_i ho; cases (Y _ _ ho).symm.trans htp
    · cases hcd
  ca := fun Y ⟨_, I⟩ k => exc_class C Y I k
end
/-- what the text says of its exceptions, all at once -/
structure Tab (K : PySem.W.Frag) : Prop where
  exm : ∀ {nm c nm' c'}, ClsK K nm c → ClsK K nm' c' → PySem.W.exmOne K c c' = some (isSub nm nm')
  kit : ∀ {nm c nm' c'}, ClsK K nm c → ClsK K nm' c' → PySem.W.kitOne K c c' = some (isSub nm nm')
  ref : ∀ {nm c}, ClsK K nm c → ∃ C, c = .ref C ∧ XfC K C ∧ ExcC K C ∧ PySem.W.findIn K (.ref C) "given" = some none
/-! ### try -/
abbrev ClD := Str × Option Nat × (Addr → Value → Option Addr → RS)
def setO (i : Option Nat) (d : Option D) (n : Nv) : Nv := i.elim n fun j => n.set j d
def enO (i : Option Nat) (e : EN) : EN := { nx := fun n m => e.nx (setO i none n) m, rt := e.rt, bk := fun n m => e.bk (setO i none n) m, ct := fun n m => e.ct (setO i none n) m }
def xCls (xd : XD) (e : EN) : List ClD → XD
  | [] => xd
  | (h, i, ts) :: r => fun nm fs n m => if isSub nm h = true then ∀ a c o, m a = none → ts a c o xd0 (enO i e) (setO i (some (.exc a c o nm fs)) n) m else xCls xd e r nm fs n m
def rTry (l : List ClD) (b : RS) : RS := fun xd e n m => b (xCls xd e l) e n m
section
variable {X : Cx} {W : WX} {pos : Pos}
inductive DCl (X : Cx) : List ExceptHandler → List ClD → Prop
  | nil : DCl X [] []
  | cons {x : Str} {o : Option Str} {i : Option Nat} {ts : Addr → Value → Option Addr → RS} {st : Stmt} {sts : List Stmt} {np hp : Pos} {hs : List ExceptHandler} {l : List ClD} (hm : ∃ c, X.mg x = some c ∧ ClsK X.K x c) (hg : Gl X x) (ho : nameOk X o i)
      (su : ∀ (a : Addr) (oe : Obj) (cls : Value) (d : Option Addr) (pn : List (Addr × Obj)), Zc cls d oe → (∃ vs, oe.data = .fields vs) → DSs (X.suite a ((a, oe) :: pn)) W0 (st :: sts) (ts a cls d)) (r : DCl X hs l)
      (hdb : (x == ("__debug__" : Str)) = false := by decide) : DCl X (.ExceptHandler (some (.Name x np)) o (st :: sts) hp :: hs) ((x, i, ts) :: l)
theorem setO_rep {K : PySem.W.Frag} {G : Hp} {n : Nv} {t : L2.St} {d : D} {v : V} (i : Option Nat) (hn : RepN K G n t) (h : Rep K G d v) : RepN K G (setO i (some d) n) (bindO i (some v) t) := by
  cases i with
  | none => exact hn
  | some j => exact hn.set h j
theorem unsetO_rep {K : PySem.W.Frag} {G : Hp} {n : Nv} {t : L2.St} (i : Option Nat) (hn : RepN K G n t) : RepN K G (setO i none n) (bindO i none t) := by
  cases i with
  | none => exact hn
  | some j => exact RepN.unset j hn
theorem LinkS.enO {K : PySem.W.Frag} {G : Hp} {e : EN} {D : Ends} (i : Option Nat) (L : LinkS K G e D) : LinkS K G (enO i e) (endO i D) :=
  ⟨fun n m t G' H' a b c k => L.nx _ m _ G' H' a b (unsetO_rep i c) k, L.rt, fun n m t G' H' a b c k => L.bk _ m _ G' H' a b (unsetO_rep i c) k, fun n m t G' H' a b c k => L.ct _ m _ G' H' a b (unsetO_rep i c) k⟩
theorem RepX.exc {K : PySem.W.Frag} {G : Hp} {nm : Str} {c : Value} {fs : List (Str × D)} {o : Option Addr} (a : Addr) (h : RepX K G nm c fs o) : Rep K G (.exc a c o nm fs) (.ref a) := by
  cases h with
  | no z => exact .exc0 z
  | yes z h r => exact .exc z h r
theorem RepX.cls {K : PySem.W.Frag} {G : Hp} {nm : Str} {c : Value} {fs : List (Str × D)} {o : Option Addr} (h : RepX K G nm c fs o) : ClsK K nm c := by
  cases h with
  | no z => exact z
  | yes z h r => exact z
theorem DCl.low (T : Tab X.K) {hs : List ExceptHandler} {l : List ClD} (h : DCl X hs l) : ∃ l', ClsOk X hs l' ∧ ∀ (G : Hp) (e : EN) (xd : XD) (Wout : WX) (D : Ends), LinkX X.K Wout G xd → LinkS X.K G e D → LinkX X.K (wCls X.K Wout D l') G (xCls xd e l) := by
  induction h with
  | nil => exact ⟨[], .nil, fun G e xd Wout D h _ => h⟩
  | @cons x o i ts st sts np hp hs l hm hg ho su r hdb ih =>
    obtain ⟨l', h1, h2⟩ := ih
    obtain ⟨c', em, kc⟩ := hm
    refine ⟨(c', i, fun a cls d => lowS X.K W0 (ts a cls d)) :: l', .cons ⟨hg, hdb, .inl em⟩ ho (fun a oe cls d pn hz hf => su a oe cls d pn hz hf) h1, fun G e xd Wout D lx ls nm c fs o n m t G' H' s1 s2 rn rx k => ?_⟩
    refine ⟨isSub nm x, T.exm rx.cls kc, fun hb a ha => ?_, fun hb => ?_⟩
    · rw [xCls, if_pos hb] at k
      exact ⟨_, m, G', xd0, enO i e, setO_rep i rn (rx.exc a), s2, link0, k a c o (s2.freeM ha), (ls.mono s1).enO i⟩
    · rw [xCls, if_neg (by rw [hb]; exact Bool.false_ne_true)] at k
      exact h2 G e xd Wout D lx ls nm c fs o n m t G' H' s1 s2 rn rx k
theorem ds_try {body : List Stmt} {h₀ : ExceptHandler} {hds : List ExceptHandler} {l : List ClD} {rb : RS} (T : Tab X.K) (hs : X.stack = X.env :: X.outer) (hf : X.env.frame = some X.env.locals) (hN : X.N.Nodup) (tk : Takes X W)
    (hb : ∀ (W' : WX) (pn : List (Addr × Obj)) (xe : Value → Shared → Prop), Takes (X.tr pn xe) W' → PassesOwn (model X.prog X.w) X.A X.env xe → DSs (X.tr pn xe) W' body rb) (hh : DCl X (h₀ :: hds) l) :
    DS X W (.Try body (h₀ :: hds) [] [] pos) (rTry l rb) := by
  obtain ⟨l', h1, h2⟩ := hh.low T
  refine PS.imp (ps_try_cls (tb := fun W' => lowS X.K W' rb) hs hf hN tk hb h1) fun D t H ⟨n, m, G, xd, e, hn, hs, hl, hr, L⟩ => ?_
  exact ⟨n, m, G, xCls xd e l, e, hn, hs, h2 G e xd W D hl L, hr, L⟩
end
/-! ### exceptions that are held as values -/
def ExAt (H : Hp) (a C : Addr) : Prop := (∃ o, H a = some (exo a C o)) ∨ H a = some (ExO (.ref C) a)
theorem ExAt.cls {P : Program} {w : World} {H : Hp} {h : Heap} {a C : Addr} (x : ExAt H a C) (hok : HOk P w H h) : ∃ o : Obj, h.get? a = some o ∧ o.cls = .ref C := by
  rcases x with ⟨o, e⟩ | e
  · obtain ⟨t1, z⟩ := exo_at hok e
    exact ⟨_, z, rfl⟩
  · have z : ObjOk P w H h a (ExO (.ref C) a) := hok a _ e
    obtain ⟨⟨oe, vs, h1, h2, _⟩, _⟩ := z
    exact ⟨oe, h1, h2.1⟩
/-! ### in a suite -/
def rXf (a : Addr) (c : Value) (o : Option Addr) (f : Str) (re : RE) : RE := fun xd n m q => re xd n m fun d m1 => ∃ nm fs x, d = .exc a c o nm fs ∧ fs.lookup f = some x ∧ q x m1
section
variable {X : Cx} {W : WX} {pos : Pos} {a : Addr} {oe : Obj} {cls : Value} {d : Option Addr} {pn : List (Addr × Obj)} {e : Expr} {re : RE}
theorem de_xf (T : Tab X.K) (hz : Zc cls d oe) (hf : ∃ vs, oe.data = .fields vs) (he : DE (X.suite a ((a, oe) :: pn)) W e re) (hb : attributeBase e "given" X.env (eval e X.env) = eval e X.env := by rfl) :
    DE (X.suite a ((a, oe) :: pn)) W (.Attribute e "given" pos) (rXf a cls d "given" re) := by
  refine ⟨fun pins s σ H Q I ⟨n, m, G, xd, q, hn, hs, hl, hr, hq⟩ => ?_⟩
  refine attr_of hb (thn (he.run pins s σ H (fun v H1 => (∃ C dd gs y, v = .ref a ∧ cls = .ref C ∧ XfC X.K C ∧ PySem.W.findIn X.K (.ref C) "given" = some none ∧ d = some dd ∧ H1 dd = some (.xd gs) ∧ gs.lookup ("given" : Str) = some y ∧ Q y H1) ∨ (v = .ref a ∧ cls = .none ∧ ∃ C, ExAt H1 a C)) I ⟨n, m, G, xd, _, hn, hs, hl, hr, fun dx m1 v G1 H1 e1 s1 r1 ⟨nm, fs, y, ed, el, k⟩ => ?_⟩) fun u s1 hh => ?_)
  · subst ed
    cases r1 with
    | exc c h r =>
      obtain ⟨C, ec, xf, _, hg⟩ := T.ref c
      obtain ⟨v, ev, rv⟩ := r.lookup el
      exact .inl ⟨C, _, _, v, rfl, ec, xf, hg, rfl, s1.sub _ _ h, ev, hq y m1 v G1 H1 e1 s1 rv k⟩
    | exc0 c => cases el
    | exv c h1 h2 r => exact .inr ⟨rfl, rfl, _, .inl ⟨_, s1.sub _ _ h1⟩⟩
    | exv0 c h1 => cases el
  · obtain ⟨x, H1, I1, rx, hh⟩ := hh
    rcases hh with ⟨C, dd, gs, y, rfl, rfl, xf, hg, rfl, hdd, hlk, k⟩ | ⟨rfl, rfl, C, hx⟩
    rotate_left
    · obtain ⟨ha, _⟩ := I1.pin (a, oe) (List.mem_append_left _ List.mem_cons_self)
      obtain ⟨o2, ho2, hc2⟩ := hx.cls I1.hok
      rw [ha] at ho2
      cases ho2
      rw [hz.1] at hc2
      cases hc2
    obtain rfl : u = Value.ref a := rx
    obtain ⟨ha, _⟩ := I1.pin (a, oe) (List.mem_append_left _ List.mem_cons_self)
    obtain ⟨vs, hd⟩ := hf
    have hx : ObjOk X.prog X.w H1 s1.heap dd (.xd gs) := I1.hok dd _ hdd
    obtain ⟨mA, hns, hr⟩ := hx
    obtain ⟨od, ho, hl⟩ := lookIn_ns hns
    obtain ⟨u, hu, ru⟩ := RelO.some_of (v := y) (o := mA "given") (by rw [← hlk]; exact hr "given")
    have J : PySem.W.InstAt s1.heap a oe C (some od) := ⟨ha, hz.1, by unfold PySem.W.notCls; rw [hd] <;> rfl, by rw [hz.2]; exact ho⟩
    exact HandSPX.exc_get I1.kIn J xf.ga xf.gg xf.exC (PySem.W.findObj_own xf.hdC hg rfl (by rw [hl, hu])) (handed_of ru) ⟨y, H1, I1.tok _, ru, k⟩
/-- isinstance(e, R) of the exception that the suite holds -/
def rIsX (a : Addr) (c : Value) (o : Option Addr) (R : Str) (re : RE) : RE := fun xd n m q => re xd n m fun d m1 => ∃ nm fs, d = .exc a c o nm fs ∧ q (.bl (isSub nm R)) m1
theorem de_isx {R : Str} {p p2 : Pos} (T : Tab X.K) (hz : Zc cls d oe) (hf : ∃ vs, oe.data = .fields vs) (hm : ∃ c, X.mg R = some c ∧ ClsK X.K R c) (hg : Gl (X.suite a ((a, oe) :: pn)) R) (hg2 : Gl (X.suite a ((a, oe) :: pn)) "isinstance") (hm2 : X.mg "isinstance" = none) (he : DE (X.suite a ((a, oe) :: pn)) W e re)
    (hdb : (R == ("__debug__" : Str)) = false := by decide) (hs : starEach [e, .Name R p2] X.env = [(false, eval e X.env), (false, eval (.Name R p2) X.env)] := by rfl) (hs2 : starEach [.Name R p2] X.env = [(false, eval (.Name R p2) X.env)] := by rfl) :
    DE (X.suite a ((a, oe) :: pn)) W (.Call (.Name "isinstance" p) [e, .Name R p2] [] pos) (rIsX a cls d R re) := by
  obtain ⟨c', em, kc⟩ := hm
  refine ⟨fun pins s σ H Q I ⟨n, m, G, xd, q, hn, hsp, hl, hr, hq⟩ => ?_⟩
  refine Call_ (ld_blt I hg2 hm2 bt_isinstance ?_)
  refine PyProof.Rows.callWith_builtin1 (PyProof.Rows.args_cons (thn (he.run pins s σ H (fun v H1 => (∃ C b, v = .ref a ∧ cls = .ref C ∧ ExcC X.K C ∧ PySem.W.kitOne X.K cls c' = some b ∧ (∀ dd, d = some dd → ∃ gs, H1 dd = some (.xd gs)) ∧ Q (.bl b) H1) ∨ (v = .ref a ∧ cls = .none ∧ ∃ C, ExAt H1 a C)) I ⟨n, m, G, xd, _, hn, hsp, hl, hr, fun dx m1 v G1 H1 e1 s1 r1 ⟨nm, fs, ed, k⟩ => ?_⟩) fun u s1 hh => ?_) hs) hs rfl
  · subst ed
    have key : ClsK X.K nm cls → v = .ref a → (∀ dd, d = some dd → ∃ gs, H1 dd = some (.xd gs)) → ∃ C b, v = .ref a ∧ cls = .ref C ∧ ExcC X.K C ∧ PySem.W.kitOne X.K cls c' = some b ∧ (∀ dd, d = some dd → ∃ gs, H1 dd = some (.xd gs)) ∧ Q (.bl b) H1 := fun c ev hd => by
      obtain ⟨C, ec, _, xc, _⟩ := T.ref c
      exact ⟨C, isSub nm R, ev, ec, xc, T.kit c kc, hd, hq _ m1 _ G1 H1 e1 s1 (.bl _) k⟩
    cases r1 with
    | exc c h r => exact .inl (key c rfl fun dd e => by cases e; exact ⟨_, s1.sub _ _ h⟩)
    | exc0 c => exact .inl (key c rfl nofun)
    | exv c h1 h2 r => exact .inr ⟨rfl, rfl, _, .inl ⟨_, s1.sub _ _ h1⟩⟩
    | exv0 c h1 => exact .inr ⟨rfl, rfl, _, .inr (s1.sub _ _ h1)⟩
  · obtain ⟨x, H1, I1, rx, hh⟩ := hh
    rcases hh with ⟨C, b, rfl, rfl, xc, hk, hdd, k⟩ | ⟨rfl, rfl, C, hx⟩
    rotate_left
    · obtain ⟨ha, _⟩ := I1.pin (a, oe) (List.mem_append_left _ List.mem_cons_self)
      obtain ⟨o2, ho2, hc2⟩ := hx.cls I1.hok
      rw [ha] at ho2
      cases ho2
      rw [hz.1] at hc2
      cases hc2
    obtain rfl : u = Value.ref a := rx
    refine PyProof.Rows.args_cons (ld_glob I1 hg em (PyProof.Rows.args_nil ?_) hdb) hs2
    obtain ⟨ha, _⟩ := I1.pin (a, oe) (List.mem_append_left _ List.mem_cons_self)
    obtain ⟨vs, hd⟩ := hf
    have J : ∃ od, PySem.W.InstAt s1.heap a oe C od := by
      obtain ⟨oc, oo, oda, osl⟩ := oe
      obtain ⟨h1, h2⟩ := hz
      dsimp only at h1 h2 hd
      subst h1 h2 hd
      cases oo with
      | none => exact ⟨none, ha, rfl, rfl, trivial⟩
      | some dd =>
        obtain ⟨gs, e⟩ := hdd dd rfl
        have hx : ObjOk X.prog X.w H1 s1.heap dd (.xd gs) := I1.hok dd _ e
        obtain ⟨mA, ⟨o, es, ep, eo, _⟩, _⟩ := hx
        exact ⟨some o, ha, rfl, rfl, eo⟩
    exact PySem.W.kia_one (kitx_exc (ox := oe) xc) I1.kIn J hk (fun z => nomatch z) fun tk => ⟨.bl b, H1, I1.kept (t' := tk) fun _ _ z => z, rfl, k⟩
end
end DL

/-! DL13: the text's exception classes, all at once -/
namespace DL
open PySem PySem.Spec PyProof.Rows L2
def bmOf (R : Addr) (nm : Str) : List Value := if nm = "RestError" then HandSPX.veTail else .ref R :: HandSPX.veTail
theorem bmOf_rest (R : Addr) : bmOf R "RestError" = HandSPX.veTail := if_pos rfl
theorem bmOf_other {R : Addr} {nm : Str} (h : nm ≠ "RestError") : bmOf R nm = .ref R :: HandSPX.veTail := if_neg h
/-- what is read off the text of one of them -/
structure ExF (K : PySem.W.Frag) (R : Addr) (nm : Str) (C : Addr) : Prop where
  ns : PySem.W.nsIn K mainGlobals nm = some (some (.ref C))
  lk : ∃ q N bs sn sub ab col dd k0 k1 k2 k3 k5, K.lookup C = some (excClassObj nm q C N bs (bmOf R nm) true sn sub ab col dd k0 k1 k2 k3 k5 "ValueError.__new__")
  sa : PySem.W.findIn K (.ref C) "__setattr__" = some (some (.builtin "object.__setattr__"))
  ga : PySem.W.findIn K (.ref C) "__getattribute__" = some (some (.builtin "BaseException.__getattribute__"))
  gg : PySem.W.findIn K (.ref C) "__getattr__" = some none
  cl : PySem.W.findIn K (.ref C) "__class__" = some (some (.builtin "object.__class__"))
  gv : PySem.W.findIn K (.ref C) "given" = some none
  kp : PySem.W.keepIn K (.ref C) = true
section
variable {K : PySem.W.Frag} {R C C' : Addr} {nm nm' : Str}
theorem bmOf_ve (R : Addr) (nm : Str) : HandSPX.refsVE (bmOf R nm) = true := by
  unfold bmOf
  split <;> rfl
theorem ExF.sub (h : ExF K R nm C) (v : Value) : PySem.W.subIn K (.ref C) v = some ((Value.ref C :: bmOf R nm).contains v) := by
  obtain ⟨q, N, bs, sn, sub, ab, col, dd, k0, k1, k2, k3, k5, e⟩ := h.lk
  show PySem.W.mroIn K C v = _
  unfold PySem.W.mroIn PySem.W.clsIn
  rw [e]
  rfl
theorem ExF.exC (h : ExF K R nm C) : PySem.W.subIn K (.ref C) (.type "BaseException") = some true := by
  rw [h.sub, List.contains_cons, HandSPX.refsVE_contains _ _ (bmOf_ve R nm)]
  rfl
theorem ExF.tyC (h : ExF K R nm C) : PySem.W.typeIn K (.ref C) = some (.type "type") := by
  obtain ⟨q, N, bs, sn, sub, ab, col, dd, k0, k1, k2, k3, k5, e⟩ := h.lk
  show (K.lookup C).map _ = _
  rw [e]
  rfl
theorem ExF.hdC (h : ExF K R nm C) : PySem.W.hasDictIn K C = true := by
  obtain ⟨q, N, bs, sn, sub, ab, col, dd, k0, k1, k2, k3, k5, e⟩ := h.lk
  unfold PySem.W.hasDictIn PySem.W.clsIn
  rw [e]
  rfl
theorem ExF.mro (h : ExF K R nm C) : PySem.W.mroIn K C (.type "object") = some true := by
  have := h.sub (.type "object")
  rw [List.contains_cons, HandSPX.refsVE_contains _ _ (bmOf_ve R nm)] at this
  exact this
theorem ExF.oex (h : ExF K R nm C) : OexC K C := ⟨by
  obtain ⟨q, N, bs, sn, sub, ab, col, dd, k0, k1, k2, k3, k5, e⟩ := h.lk
  exact ⟨_, _, _, _, _, _, _, _, _, _, _, _, _, _, _, e, bmOf_ve R nm⟩, h.sa, h.exC, h.tyC, h.kp⟩
theorem special_class (K : PySem.W.Frag) : PySem.W.specialIn K (.builtin "object.__class__") "__get__" = some (some (.builtin "getset_descriptor.__get__")) := by
  show (PySem.W.pureOf (PySem.fastBuiltinType "object.__class__")).bind (fun t => PySem.W.findIn K t "__get__") = _
  have e : PySem.W.pureOf (PySem.fastBuiltinType "object.__class__") = some (.type "getset_descriptor") := by decide +kernel
  rw [e]
  show PySem.fastLookup "getset_descriptor" "__get__" = _
  decide +kernel
theorem takes_class (K : PySem.W.Frag) : PySem.W.takesIn K (.builtin "object.__class__") = some true := by
  have e : PySem.W.specialIn K (.builtin "object.__class__") "__set__" = some (some (.builtin "getset_descriptor.__set__")) := by
    show (PySem.W.pureOf (PySem.fastBuiltinType "object.__class__")).bind (fun t => PySem.W.findIn K t "__set__") = _
    have e : PySem.W.pureOf (PySem.fastBuiltinType "object.__class__") = some (.type "getset_descriptor") := by decide +kernel
    rw [e]
    show PySem.fastLookup "getset_descriptor" "__set__" = _
    decide +kernel
  unfold PySem.W.takesIn
  rw [e]
theorem ExF.excC (h : ExF K R nm C) : ExcC K C := ⟨h.ga, h.gg, h.exC, h.hdC, h.cl, special_class K, takes_class K, h.mro⟩
theorem ExF.xfC (h : ExF K R nm C) : XfC K C := ⟨h.ga, h.gg, h.exC, h.hdC⟩
theorem ExF.name (h : ExF K R nm C) (h' : ExF K R nm' C) : nm = nm' := by
  obtain ⟨q, N, bs, sn, sub, ab, col, dd, k0, k1, k2, k3, k5, e⟩ := h.lk
  obtain ⟨q', N', bs', sn', sub', ab', col', dd', j0, j1, j2, j3, j5, e'⟩ := h'.lk
  have z := Option.some.inj (e.symm.trans e')
  have z2 := congrArg (fun o : Obj => match o.data with | .cls cd => cd.name | _ => "") z
  exact z2
theorem ExF.same (h : ExF K R nm C) (h' : ExF K R nm C') : C = C' := by
  have z := h.ns.symm.trans h'.ns
  cases z
  rfl
theorem ExF.isSub (hR : ExF K R "RestError" R) (h : ExF K R nm C) (h' : ExF K R nm' C') : PySem.W.subIn K (.ref C) (.ref C') = some (isSub nm nm') := by
  rw [h.sub, List.contains_cons]
  congr 1
  have t0 : HandSPX.veTail.contains (Value.ref C') = false := rfl
  have e1 : ∀ {x y : Addr} {n n' : Str}, ExF K R n x → ExF K R n' y → (Value.ref x == Value.ref y) = (n == n') := fun {x y n n'} a b => by
    rw [Bool.eq_iff_iff, beq_iff_eq, beq_iff_eq]
    constructor
    · intro z
      cases z
      exact a.name b
    · intro z
      subst z
      rw [a.same b]
  unfold DL.isSub
  rw [e1 h' h]
  unfold bmOf
  split
  · rename_i e
    subst e
    rw [t0, Bool.or_false, Bool.eq_iff_iff, Bool.or_eq_true, beq_iff_eq, beq_iff_eq]
    constructor
    · intro z; exact .inr z
    · rintro (z | z)
      · exact z.symm
      · exact z
  · rw [List.contains_cons, t0, Bool.or_false, e1 h' hR, Bool.eq_iff_iff, Bool.or_eq_true, Bool.or_eq_true, beq_iff_eq, beq_iff_eq, beq_iff_eq]
    constructor
    · rintro (z | z)
      · exact .inl z.symm
      · exact .inr z
    · rintro (z | z)
      · exact .inl z.symm
      · exact .inr z
def exOne (K : PySem.W.Frag) (R : Addr) (nm : Str) : Option Addr → Prop
  | none => PySem.W.nsIn K mainGlobals nm = some none
  | some C => ExF K R nm C
def exAll (K : PySem.W.Frag) (R : Addr) : List Str → List (Option Addr) → Prop
  | nm :: r, o :: os => exOne K R nm o ∧ exAll K R r os
  | [], [] => True
  | _, _ => False
theorem exAll_at : ∀ {l : List Str} {os : List (Option Addr)} {nm : Str} {c : Value}, exAll K R l os → nm ∈ l → PySem.W.nsIn K mainGlobals nm = some (some c) → ∃ C, c = .ref C ∧ ExF K R nm C
  | [], _, _, _, _, hm, _ => by cases hm
  | a :: l, [], _, _, h, _, _ => h.elim
  | a :: l, o :: os, nm, c, h, hm, hn => by
    rcases List.mem_cons.mp hm with rfl | hm
    · cases o with
      | none =>
        have z := (show PySem.W.nsIn K mainGlobals nm = some none from h.1).symm.trans hn
        cases z
      | some C =>
        have x : ExF K R nm C := h.1
        have z := x.ns.symm.trans hn
        cases z
        exact ⟨C, rfl, x⟩
    · exact exAll_at h.2 hm hn
theorem tab_mk (os : List (Option Addr)) (hR : ExF K R "RestError" R) (h : exAll K R excL os) : Tab K := by
  have key : ∀ {nm c}, ClsK K nm c → ∃ C, c = .ref C ∧ ExF K R nm C := fun {nm c} ⟨hm, hn⟩ => exAll_at h hm hn
  refine ⟨fun {nm c nm' c'} a b => ?_, fun {nm c nm' c'} a b => ?_, fun {nm c} a => ?_⟩
  · obtain ⟨C, rfl, e⟩ := key a
    obtain ⟨C', rfl, e'⟩ := key b
    exact PySem.W.exm_ref e'.exC e'.hdC e'.tyC (hR.isSub e e')
  · obtain ⟨C, rfl, e⟩ := key a
    obtain ⟨C', rfl, e'⟩ := key b
    unfold PySem.W.kitOne
    split
    · rename_i z
      cases (beq_iff_eq.mp z)
      rw [e.name e']
      simp [DL.isSub]
    · obtain ⟨cd, hc, _⟩ := PySem.W.any_some e'.hdC
      show (if ((PySem.W.clsIn K C').isSome && PySem.W.typeIn K (.ref C') == some (.type "type")) = true then PySem.W.subIn K (.ref C) (.ref C') else none) = _
      rw [hc, e'.tyC]
      exact hR.isSub e e'
  · obtain ⟨C, rfl, e⟩ := key a
    exact ⟨C, rfl, e.xfC, e.excC, e.gv⟩
end
/-- an exception that keeps what it is given, by its class and its __init__ -/
theorem excD_mk {P : Program} {w : World} {K : PySem.W.Frag} {mg : Str → Option Value} {base : Heap} {R C fI : Addr} {k : Nat} {nm : Str} {fd : FuncData} (x : ExF K R nm C) (hm : nm ∈ excL) (em : mg nm = some (.ref C)) (i : PySem.W.findIn K (.ref C) "__init__" = some (some (.ref fI)))
    (t : PySem.W.typeIn K (.ref fI) = some (.type "function")) (F : FnOk P w K mg base (L2.CX P w) k fI fd ["self", "given"] (spInit K)) (b : Binds K fd ["self", "given"] []) : ExcD P w K mg base k nm := ⟨C, fI, fd, x.oex, i, t, F, b, em, ⟨hm, x.ns⟩, x.gv⟩
end DL

/-! DL14: dicts -/
namespace DL
open PySem PySem.Spec PyProof.Rows L2
/-! ### dicts locked -/
def LkD (H H' : Hp) (ps : List Addr) : Prop := (∀ p ∈ ps, ∃ od us, H p = some (.dK us) ∧ H' p = some (.frz od (.dK us))) ∧ ∀ b, b ∉ ps → H' b = H b
section
variable {X : Cx} {pins : List (Addr × Obj)} {σ : L2.St} {s : Shared}
theorem lock_all : ∀ (ps : List Addr) {H : Hp}, Inv X pins σ H s → ps.Nodup → (∀ p ∈ ps, ∃ us, H p = some (.dK us)) → ∃ H', Inv X pins σ H' s ∧ LkD H H' ps
  | [], H, I, _, _ => ⟨H, I, fun p h => (nomatch h), fun _ _ => rfl⟩
  | p :: ps, H, I, nd, h => by
    rw [List.nodup_cons] at nd
    obtain ⟨H1, I1, h1, h2⟩ := lock_all ps I nd.2 fun q hq => h q (List.mem_cons_of_mem _ hq)
    obtain ⟨us, hp⟩ := h p List.mem_cons_self
    have hp1 : H1 p = some (.dK us) := (h2 p nd.1).trans hp
    obtain ⟨od, I2⟩ := I1.lock hp1 True.intro
    refine ⟨_, I2, fun q hq => ?_, fun b hb => ?_⟩
    · rcases List.mem_cons.mp hq with rfl | hq
      · exact ⟨od, us, hp, upd_same⟩
      · obtain ⟨od2, us2, a, c⟩ := h1 q hq
        exact ⟨od2, us2, a, by rw [upd_ne (fun z => nd.1 (by rw [← z]; exact hq))]; exact c⟩
    · rw [List.mem_cons, not_or] at hb
      rw [upd_ne hb.1]
      exact h2 b hb.2
end
section
variable {X : Cx}
def tLk (t : TE) : TE := fun σ H Q => t σ H fun v H1 => ∃ ps : List Addr, ps.Nodup ∧ (∀ p ∈ ps, ∃ us, H1 p = some (.dK us)) ∧ ∀ H2, LkD H1 H2 ps → Q v H2
theorem pe_lk {e : Expr} {t : TE} (h : PE X e t) : PE X e (tLk t) := ⟨fun pins s σ H Q I hq => thn (h.run pins s σ H _ I hq) fun v s1 ⟨x, H1, I1, r1, ps, nd, hp, k⟩ => by
  obtain ⟨H2, I2, lk⟩ := lock_all ps I1 nd hp
  exact ⟨x, H2, I2, r1, k H2 lk⟩⟩
def tLkS (t : TS) : TS := fun D σ H => t { D with nx := fun σ1 H1 => ∃ ps : List Addr, ps.Nodup ∧ (∀ p ∈ ps, ∃ us, H1 p = some (.dK us)) ∧ ∀ H2, LkD H1 H2 ps → D.nx σ1 H2 } σ H
theorem ps_lk {e : Stmt} {t : TS} (h : PS X e t) : PS X e (tLkS t) := ⟨fun pins s σ H D I hq => wpAny_mono (h.run pins s σ H _ I hq) (fun fl s' q => by
  cases fl with
  | next =>
    obtain ⟨σ', H', I1, ps, nd, hp, k⟩ := q
    obtain ⟨H2, I2, lk⟩ := lock_all ps I1 nd hp
    exact ⟨σ', H2, I2, k H2 lk⟩
  | brk => exact q
  | cont => exact q
  | ret v => exact q) fun e s' q => q⟩
end
/-- what is one's own no more; the dicts among it are locked -/
def mdels (m : Mem) (ps : List Addr) : Mem := fun a => if a ∈ ps then none else m a
theorem mdels_nil (m : Mem) : mdels m [] = m := by
  funext a
  simp [mdels]
theorem mdels_cons (m : Mem) (p : Addr) (ps : List Addr) : mdels m (p :: ps) = mdels (mdel m p) ps := by
  funext a
  unfold mdels mdel
  by_cases h : a = p <;> by_cases h2 : a ∈ ps <;> simp [h, h2]
theorem mdels_one' (m : Mem) (p : Addr) : mdels m [p] = mdel m p := by rw [mdels_cons, mdels_nil]
/-- the dicts with int and text keys among ps -/
theorem dks_of (m : Mem) : ∀ ps : List Addr, ∃ qs : List Addr, qs.Nodup ∧ ∀ q, q ∈ qs ↔ q ∈ ps ∧ ∃ kvs, m q = some (.dct false kvs)
  | [] => ⟨[], List.nodup_nil, fun q => by simp⟩
  | p :: ps => by
    obtain ⟨qs, nd, h⟩ := dks_of m ps
    by_cases hp : p ∈ qs ∨ ¬ ∃ kvs, m p = some (.dct false kvs)
    · refine ⟨qs, nd, fun q => ?_⟩
      rw [h, List.mem_cons]
      constructor
      · exact fun z => ⟨.inr z.1, z.2⟩
      · rintro ⟨rfl | z, w⟩
        · rcases hp with hp | hp
          · exact (h q).mp hp
          · exact absurd w hp
        · exact ⟨z, w⟩
    · rw [not_or, Classical.not_not] at hp
      refine ⟨p :: qs, List.nodup_cons.mpr ⟨hp.1, nd⟩, fun q => ?_⟩
      rw [List.mem_cons, h, List.mem_cons]
      constructor
      · rintro (rfl | z)
        · exact ⟨.inl rfl, hp.2⟩
        · exact ⟨.inr z.1, z.2⟩
      · rintro ⟨rfl | z, w⟩
        · exact .inl rfl
        · exact .inr ⟨z, w⟩
section
variable {K : PySem.W.Frag} {G H : Hp} {m : Mem}
theorem Sep.dks (s : Sep K G m H) {qs : List Addr} (h : ∀ q ∈ qs, ∃ kvs, m q = some (.dct false kvs)) : ∀ q ∈ qs, ∃ us, H q = some (.dK us) := fun q hq => by
  obtain ⟨kvs, e⟩ := h q hq
  obtain ⟨u, hu, r⟩ := s.own q _ e
  cases r with
  | dK r => exact ⟨_, hu⟩
/-- frozen, the dicts locked -/
theorem Sep.locks (s : Sep K G m H) {ps qs : List Addr} {H' : Hp} (hq : ∀ q ∈ qs, q ∈ ps ∧ ∃ kvs, m q = some (.dct false kvs)) (lk : LkD H H' qs) : ∃ G', Same G G' ∧ Sep K G' (mdels m ps) H' ∧ ∀ p ∈ ps, m p ≠ none → G' p = H' p := by
  classical
  have gm : ∀ b u, G b = some u → m b = none := fun b u e => by
    cases h : m b with
    | none => rfl
    | some z =>
      have := s.out b z h
      rw [e] at this
      cases this
  have e1 : Same G (fun b => if b ∈ ps ∧ m b ≠ none then H' b else G b) := fun b u e => by
    show (if b ∈ ps ∧ m b ≠ none then H' b else G b) = some u
    rw [if_neg (fun z => z.2 (gm b u e))]
    exact e
  refine ⟨_, e1, ⟨fun b u e => ?_, fun b z e => ?_, fun b z e => ?_⟩, fun p hp hn => if_pos ⟨hp, hn⟩⟩
  · have e : (if b ∈ ps ∧ m b ≠ none then H' b else G b) = some u := e
    by_cases h : b ∈ ps ∧ m b ≠ none
    · rw [if_pos h] at e
      exact e
    · rw [if_neg h] at e
      rw [lk.2 b (fun z => by
        obtain ⟨_, kvs, w⟩ := hq b z
        rw [gm b u e] at w
        cases w)]
      exact s.sub b u e
  · unfold mdels at e
    by_cases h : b ∈ ps
    · rw [if_pos h] at e
      cases e
    · rw [if_neg h] at e
      show (if b ∈ ps ∧ m b ≠ none then H' b else G b) = none
      rw [if_neg (fun z => h z.1)]
      exact s.out b z e
  · unfold mdels at e
    by_cases h : b ∈ ps
    · rw [if_pos h] at e
      cases e
    · rw [if_neg h] at e
      obtain ⟨u, hu, r⟩ := s.own b z e
      exact ⟨u, by rw [lk.2 b (fun z => h (hq b z).1)]; exact hu, r.mono e1⟩
end
section
variable {X : Cx} {W : WX} {pos : Pos}
theorem de_dct0 : DE X W (.Dict [] [] pos) (rC (.dct false [])) := PE.imp (pe_lk pe_dnewK) fun t H Q ⟨n, m, G, xd, q, hn, hs, hl, hr, hq⟩ => fun p hp => by
  refine ⟨[p], by simp, fun q hq => by rw [List.mem_singleton.mp hq]; exact ⟨_, upd_same⟩, fun H2 lk => ?_⟩
  obtain ⟨od, us, h1, h2⟩ := lk.1 p List.mem_cons_self
  rw [upd_same] at h1
  cases h1
  have eH : H2 = upd H p (.frz od (.dK [])) := by
    funext b
    by_cases hb : b = p
    · rw [hb, h2, upd_same]
    · rw [lk.2 b (by simpa using hb), upd_ne hb, upd_ne hb]
  subst eH
  obtain ⟨s2, e2⟩ := hs.laid hp (.frz od (.dK []))
  exact hq (.dct false []) m (.ref p) _ _ e2 s2 (.dK upd_same .nil) hr
end
end DL

/-! DL15: instances: made, their fields, methods, properties -/
namespace DL
open PySem PySem.Spec PyProof.Rows L2
/-! ### what is raised is wished for at the caller's slots -/
section
variable {X : Cx} {CX : CXT} {k : Nat} {f C : Addr} {fd : FuncData} {ps : List Str} {sp : Sp} {dvs : List V} {ds : List Value} {E : L2.St → XK} {x m : Str} {p pos apos : Pos} {e o : Expr} {es : List Expr} {ta : TE} {t : TA}
def tMethSD (C : Addr) (m : Str) (sp : Sp) (dvs : List V) (E : L2.St → XK) (ta : TE) (t : TA) : TE := fun σ H Q => ta σ H fun x H1 => ∃ a dx fs, x = .ref a ∧ H1 a = some (.ins C dx fs) ∧ fs.lookup m = none ∧ t σ H1 fun vs H2 => sp (x :: (vs ++ dvs)) H2 Q (E σ)
theorem pe_methSD {pl : Sem Bool} (he : PE X o ta) (c : Cls X.K C) (hm : Meth X.K C m f) (F : FnOk X.prog X.w X.K X.mg X.base CX k f fd ps sp) (hr : Room k X.A) (hb : Binds X.K fd ps ds) (hd : Vals dvs ds) (hx : ∀ σ, PassesAt CX X σ (E σ)) (ha : PA X (e :: es) t)
    (hst : starEach (e :: es) X.env = (false, eval e X.env) :: starEach es X.env := by rfl) (hpl : (backTo pos (starEach es X.env)).any (·.1) = false := by rfl)
    (ht : eval (.Call (.Attribute o m apos) (e :: es) [] pos) X.env = (do
      let ov ← eval o X.env
      standAt apos.atName
      let (f, first) ← holding [ov] (getMethod ov m pl)
      callWith pos f first (backTo pos (starEach (e :: es) X.env)) (backToKw pos (keywordEach [] X.env))) := by rfl) : PE X (.Call (.Attribute o m apos) (e :: es) [] pos) (tMethSD C m sp dvs E ta t) := ⟨fun pins s σ H Q I h => by
  refine PySem.W.methodCall_KW (pl := pl) (thn (he.run pins s σ H _ I h) fun u s1 ⟨x, H1, I1, rx, a, dx, fs, ex, ea, l, q⟩ => ?_) ht
  subst ex
  cases (show u = Value.ref a from rx)
  refine getmeth_ok I1 ea c hm l (PySem.W.callWith_K (first := [.ref a]) (h₀ := X.base) I.ok.mod.kin hm.kp (thn (ha.run pos pins s1 σ H1 _ I1 q) fun us s2 ⟨vs, H2, I2, r, q2⟩ => ⟨I2.kIn, ?_⟩) hst hpl)
  exact run_fnSD (us := .ref a :: us) (vs := .ref a :: vs) F hr hb hd (hx σ) I2 (.cons rfl r) q2⟩
theorem pe_methSD0 {pl : Sem Bool} (he : PE X o ta) (c : Cls X.K C) (hm : Meth X.K C m f) (F : FnOk X.prog X.w X.K X.mg X.base CX k f fd ps sp) (hr : Room k X.A) (hb : Binds X.K fd ps ds) (hd : Vals dvs ds) (hx : ∀ σ, PassesAt CX X σ (E σ))
    (ht : eval (.Call (.Attribute o m apos) [] [] pos) X.env = (do
      let ov ← eval o X.env
      standAt apos.atName
      let (f, first) ← holding [ov] (getMethod ov m pl)
      callWith pos f first (backTo pos (starEach [] X.env)) (backToKw pos (keywordEach [] X.env))) := by rfl) : PE X (.Call (.Attribute o m apos) [] [] pos) (tMethSD C m sp dvs E ta tNil) := ⟨fun pins s σ H Q I h => by
  refine PySem.W.methodCall_KW (pl := pl) (thn (he.run pins s σ H _ I h) fun u s1 ⟨x, H1, I1, rx, a, dx, fs, ex, ea, l, q⟩ => ?_) ht
  subst ex
  cases (show u = Value.ref a from rx)
  exact getmeth_ok I1 ea c hm l (PySem.W.callWith_K0 (first := [.ref a]) I1.kIn hm.kp (run_fnSD (us := [.ref a]) (vs := [.ref a]) F hr hb hd (hx σ) I1 (.cons rfl .nil) q))⟩
def tMakeSD (C : Addr) (sp : Sp) (dvs : List V) (E : L2.St → XK) (t : TA) : TE := fun σ H Q => t σ H fun vs H1 => ∀ x dx, H1 x = none → H1 dx = none → dx ≠ x → sp (.ref x :: (vs ++ dvs)) (upd (upd H1 dx (.own x)) x (.ins C dx [])) (fun v H2 => v = .non ∧ Q (.ref x) H2) (E σ)
theorem run_makeSD {pins : List (Addr × Obj)} {σ : L2.St} {H : Hp} {s : Shared} {Q : VK} {us : List Value} {vs : List V} (M : Mk X.K C f) (F : FnOk X.prog X.w X.K X.mg X.base CX k f fd ps sp) (hr : Room (k + 1) X.A) (hb : Binds X.K fd ps ds) (hd : Vals dvs ds) (hx : PassesAt CX X σ (E σ)) (I : Inv X pins σ H s) (r : Vals vs us)
    (h : ∀ x dx, H x = none → H dx = none → dx ≠ x → sp (.ref x :: (vs ++ dvs)) (upd (upd H dx (.own x)) x (.ins C dx [])) (fun v H2 => v = .non ∧ Q (.ref x) H2) (E σ)) : wpAny (model X.prog X.w) X.A (call (.ref C) us) (EP X pins σ Q) X.xe s := by
  have sp0 := h (s.heap.objs.size + 1) s.heap.objs.size (I.hok.fresh (Nat.le_succ _)) (I.hok.fresh (Nat.le_refl _)) (Nat.ne_of_lt (Nat.lt_succ_self _))
  have J := Inv.made (C := C) I
  have rv : Vals (V.ref (s.heap.objs.size + 1) :: (vs ++ dvs)) (.ref (s.heap.objs.size + 1) :: (us ++ ds)) := .cons rfl (r.append hd)
  have hl : (Value.ref (s.heap.objs.size + 1) :: us ++ ds).length = ps.length := rv.length.symm.trans (F.len _ _ _ _ sp0)
  refine wpAny_call (make_map (f := f) I.kIn M.makes M.init (beq_iff_eq.mp M.fn) (codeAny_mono (F.run _ X.stack _ _ ⟨.ref (s.heap.objs.size + 1) :: us, []⟩ (.ref (s.heap.objs.size + 1) :: (us ++ ds)) _ _ (E σ) (hr.make C us []) (J.env0.make C us []) (hb _ (.ref (s.heap.objs.size + 1) :: us) J.kIn hl) rv sp0) fun z s' q => ?_))
  cases z with
  | error e => exact hx pins _ _ e s' J q
  | ok fl =>
    cases fl with
    | ret u =>
      obtain ⟨v, H', I3, rv, rfl, q3⟩ := J.after q
      exact ⟨rv, ⟨V.ref (s.heap.objs.size + 1), H', I3, rfl, q3⟩⟩
    | _ => exact q.elim
theorem pe_makeSD (M : Mk X.K C f) (F : FnOk X.prog X.w X.K X.mg X.base CX k f fd ps sp) (hr : Room (k + 1) X.A) (hg : Gl X x) (hm : X.mg x = some (.ref C)) (hb : Binds X.K fd ps ds) (hd : Vals dvs ds) (hx : ∀ σ, PassesAt CX X σ (E σ)) (ha : PA X (e :: es) t) (hdb : (x == ("__debug__" : Str)) = false := by decide)
    (he : starEach (e :: es) X.env = (false, eval e X.env) :: starEach es X.env := by rfl) (hpl : (backTo pos (starEach es X.env)).any (·.1) = false := by rfl) : PE X (.Call (.Name x p) (e :: es) [] pos) (tMakeSD C sp dvs E t) := ⟨fun pins s σ H Q I h =>
  wpAny_Call_Name_kw (ld_glob I hg hm (PySem.W.callWith_K (h₀ := X.base) I.ok.mod.kin M.kp (thn (ha.run pos pins s σ H _ I h) fun us s1 ⟨vs, H1, I1, r, q⟩ => ⟨I1.kIn, run_makeSD M F hr hb hd (hx σ) I1 r q⟩) he hpl) hdb)⟩
end
/-! ### over data -/
def insOf : D → Mem → Option (Str × List (Str × D))
  | .ins nm fs, _ => some (nm, fs)
  | .ref p, m => match m p with
    | some (.ins nm fs) => some (nm, fs)
    | _ => none
  | _, _ => none
theorem ins_at {K : PySem.W.Frag} {G H : Hp} {m : Mem} {x : D} {v : V} {nm : Str} {fs : List (Str × D)} (s : Sep K G m H) (r : Rep K G x v) (h : insOf x m = some (nm, fs)) : ∃ p C dx gs, v = .ref p ∧ ClsI K nm C ∧ H p = some (.ins C dx gs) ∧ RepF K G fs gs := by
  cases r with
  | ins c e r =>
    cases h
    exact ⟨_, _, _, _, rfl, c, s.sub _ _ e, r⟩
  | ref p =>
    have h : (match m p with | some (.ins nm fs) => some (nm, fs) | _ => none) = some (nm, fs) := h
    split at h
    · rename_i e
      cases h
      obtain ⟨u, e1, r1⟩ := s.own p _ e
      cases r1 with
      | ins c r => exact ⟨p, _, _, _, rfl, c, e1, r⟩
    · cases h
  | _ => cases h
theorem ClsI.eq {K : PySem.W.Frag} {nm : Str} {C C' : Addr} (h : ClsI K nm C) (h' : ClsI K nm C') : C = C' := by
  have := h.symm.trans h'
  cases this
  rfl
/-- a field is read -/
def rFld (nm f : Str) (ro : RE) : RE := fun xd n m q => ro xd n m fun d m1 => ∃ fs x, insOf d m1 = some (nm, fs) ∧ fs.lookup f = some x ∧ q x m1
structure FldD (K : PySem.W.Frag) (nm f : Str) : Prop where
  ex : ∃ C, ClsI K nm C ∧ Cls K C ∧ NoAttr K C f
section
variable {X : Cx} {W : WX} {pos : Pos} {o e : Expr} {es : List Expr} {ro re : RE} {ra : RA}
theorem de_fld {nm f : Str} (c : FldD X.K nm f) (ho : DE X W o ro) (hb : attributeBase o f X.env (eval o X.env) = eval o X.env := by rfl) : DE X W (.Attribute o f pos) (rFld nm f ro) := by
  obtain ⟨C, ci, cl, na⟩ := c.ex
  refine PE.imp (pe_fld ho hb) fun t H Q ⟨n, m, G, xd, q, hn, hs, hl, hr, hq⟩ => ⟨n, m, G, xd, _, hn, hs, hl, hr, fun d m1 v G1 H1 e1 s1 r1 ⟨fs, x, ei, el, k⟩ => ?_⟩
  obtain ⟨p, C', dx, gs, rfl, ci', hp, rf⟩ := ins_at s1 r1 ei
  obtain ⟨v, ev, rv⟩ := rf.lookup el
  have := ci.eq ci'
  subst this
  exact ⟨p, C, dx, gs, v, rfl, hp, cl, na, ev, hq x m1 v G1 H1 e1 s1 rv k⟩
/-- .. stored -/
def putD (f : Str) (v : D) : List (Str × D) → List (Str × D)
  | [] => [(f, v)]
  | (g, x) :: r => if g = f then (g, v) :: r else (g, x) :: putD f v r
theorem RepF.put {K : PySem.W.Frag} {G : Hp} {f : Str} {d : D} {v : V} (h : Rep K G d v) : ∀ {fs : List (Str × D)} {gs : List (Str × V)}, RepF K G fs gs → RepF K G (putD f d fs) (putF f v gs)
  | _, _, .nil => .cons h .nil
  | _, _, .cons (f := g) q r => by
    unfold putD putF
    by_cases e : g = f
    · rw [if_pos e, if_pos e]
      exact .cons h r
    · rw [if_neg e, if_neg e]
      exact .cons q (RepF.put h r)
theorem RepF.length {K : PySem.W.Frag} {G : Hp} : ∀ {fs : List (Str × D)} {gs : List (Str × V)}, RepF K G fs gs → fs.length = gs.length
  | _, _, .nil => rfl
  | _, _, .cons _ r => by rw [List.length_cons, List.length_cons, RepF.length r]
def rSetF (nm f : Str) (ro re : RE) : RS := fun xd e n m => re xd n m fun d m1 => ro xd n m1 fun x m2 => ∃ a fs, x = .ref a ∧ m2 a = some (.ins nm fs) ∧ fs.length < 1000 ∧ e.nx n (mset m2 a (.ins nm (putD f d fs)))
theorem ds_setF {nm f : Str} {pos' : Pos} (c : FldD X.K nm f) (ho : DE X W o ro) (he : DE X W e re) (hs : swapsWith e (some (.Attribute o f pos')) pos.line X.env = pure false := by rfl) : DS X W (.Assign [.Attribute o f pos'] e pos) (rSetF nm f ro re) := by
  obtain ⟨C, ci, cl, na⟩ := c.ex
  refine PS.imp (ps_fld ho he hs) fun D t H ⟨n, m, G, xd, en, hn, hs, hl, hr, L⟩ => ⟨n, m, G, xd, _, hn, hs, hl, hr, fun d m1 v G1 H1 e1 s1 r1 k => ⟨n, m1, G1, xd, _, hn.mono e1, s1, hl.mono e1, k, fun y m2 w G2 H2 e2 s2 r2 ⟨a, fs, ey, em, hz, k2⟩ => ?_⟩⟩
  subst ey
  cases r2
  obtain ⟨u, e3, r3⟩ := s2.own a _ em
  cases r3 with
  | ins c' r =>
    have := ci.eq c'
    subst this
    exact ⟨a, C, _, _, rfl, e3, cl, na, by rw [← r.length]; exact hz, L.nx n _ t G2 _ (e1.trans e2) (s2.write em (.ins ci (r.put (r1.mono e2)))) (hn.mono (e1.trans e2)) k2⟩
/-- a method is called -/
structure MetD (P : Program) (w : World) (K : PySem.W.Frag) (mg : Str → Option Value) (base : Heap) (k : Nat) (nm m : Str) (ps : List Str) (df : List D) (sp : SpD) : Prop where
  ex : ∃ C f fd ds dvs, ClsI K nm C ∧ Cls K C ∧ Meth K C m f ∧ FnD P w K mg base k f fd ps sp ∧ Binds K fd ps ds ∧ Vals dvs ds ∧ ∀ G, Reps K G df dvs
def rMeth (nm m : Str) (sp : SpD) (df : List D) (ro : RE) (ra : RA) : RE := fun xd n m0 q => ro xd n m0 fun d m1 => ∃ fs, insOf d m1 = some (nm, fs) ∧ fs.lookup m = none ∧ ra xd n m1 fun ds m2 => sp (d :: (ds ++ df)) m2 q fun c fs m' => xd c fs n m'
theorem lowMeth {nm m : Str} {C : Addr} {sp : SpD} {df : List D} {dvs : List V} (ci : ClsI X.K nm C) (hd : ∀ G, Reps X.K G df dvs) : ∀ t H Q, lowE X.K W (rMeth nm m sp df ro ra) t H Q → tMethSD C m (lowSp X.K sp) dvs (WE W) (lowE X.K W ro) (lowA X.K W ra) t H Q := fun t H Q ⟨n, m0, G, xd, q, hn, hs, hl, hr, hq⟩ =>
  ⟨n, m0, G, xd, _, hn, hs, hl, hr, fun d m1 v G1 H1 e1 s1 r1 ⟨fs, ei, el, k⟩ => by
    obtain ⟨p, C', dx, gs, rfl, ci', hp, rf⟩ := ins_at s1 r1 ei
    have := ci.eq ci'
    subst this
    refine ⟨p, dx, gs, rfl, hp, rf.lookup_none el, n, m1, G1, xd, _, hn.mono e1, s1, hl.mono e1, k, fun ds m2 vs G2 H2 e2 s2 r2 k2 => ?_⟩
    exact ⟨d :: (ds ++ df), m2, G2, q, _, .cons (r1.mono e2) (r2.append (hd G2)), s2, k2, fun d m' v G' H' e3 s3 r3 q3 => hq d m' v G' H' (e1.trans (e2.trans e3)) s3 r3 q3, fun nm c fs o m' G' H' e3 s3 r3 q3 => hl nm c fs o n m' t G' H' (e1.trans (e2.trans e3)) s3 (hn.mono (e1.trans (e2.trans e3))) r3 q3⟩⟩
theorem de_meth {j k : Nat} {nm m : Str} {ps : List Str} {df : List D} {sp : SpD} {apos : Pos} {pl : Sem Bool} (c : MetD X.prog X.w X.K X.mg X.base k nm m ps df sp) (hr : Room j X.A) (hk : k ≤ j) (hx : Pas X W) (ho : DE X W o ro) (ha : DA X W (e :: es) ra)
    (hst : starEach (e :: es) X.env = (false, eval e X.env) :: starEach es X.env := by rfl) (hpl : (backTo pos (starEach es X.env)).any (·.1) = false := by rfl)
    (ht : eval (.Call (.Attribute o m apos) (e :: es) [] pos) X.env = (do
      let ov ← eval o X.env
      standAt apos.atName
      let (f, first) ← holding [ov] (getMethod ov m pl)
      callWith pos f first (backTo pos (starEach (e :: es) X.env)) (backToKw pos (keywordEach [] X.env))) := by rfl) : DE X W (.Call (.Attribute o m apos) (e :: es) [] pos) (rMeth nm m sp df ro ra) := by
  obtain ⟨C, f, fd, ds, dvs, ci, cl, me, F, b, v, rd⟩ := c.ex
  exact PE.imp (pe_methSD (pl := pl) ho cl me F (hr.mono hk) b v hx ha hst hpl ht) (lowMeth ci rd)
theorem de_meth0 {j k : Nat} {nm m : Str} {ps : List Str} {df : List D} {sp : SpD} {apos : Pos} {pl : Sem Bool} (c : MetD X.prog X.w X.K X.mg X.base k nm m ps df sp) (hr : Room j X.A) (hk : k ≤ j) (hx : Pas X W) (ho : DE X W o ro)
    (ht : eval (.Call (.Attribute o m apos) [] [] pos) X.env = (do
      let ov ← eval o X.env
      standAt apos.atName
      let (f, first) ← holding [ov] (getMethod ov m pl)
      callWith pos f first (backTo pos (starEach [] X.env)) (backToKw pos (keywordEach [] X.env))) := by rfl) : DE X W (.Call (.Attribute o m apos) [] [] pos) (rMeth nm m sp df ro rNil) := by
  obtain ⟨C, f, fd, ds, dvs, ci, cl, me, F, b, v, rd⟩ := c.ex
  refine PE.imp (pe_methSD0 (pl := pl) ho cl me F (hr.mono hk) b v hx ht) fun t H Q h => ?_
  obtain ⟨n, m0, G, xd, q, hn, hs, hl, hr, hq⟩ := lowMeth ci rd t H Q h
  refine ⟨n, m0, G, xd, q, hn, hs, hl, hr, fun d m1 v G1 H1 e1 s1 r1 k => ?_⟩
  obtain ⟨a, dx, fs, e2, e3, e4, n2, m2, G2, xd2, q2, hn2, hs2, hl2, hr2, hq2⟩ := hq d m1 v G1 H1 e1 s1 r1 k
  exact ⟨a, dx, fs, e2, e3, e4, hq2 [] m2 [] G2 H1 (Same.refl _) hs2 .nil hr2⟩
/-- an instance is made -/
structure MkD (P : Program) (w : World) (K : PySem.W.Frag) (mg : Str → Option Value) (base : Heap) (k : Nat) (nm : Str) (ps : List Str) (df : List D) (sp : SpD) : Prop where
  ex : ∃ C f fd ds dvs, ClsI K nm C ∧ mg nm = some (.ref C) ∧ Mk K C f ∧ FnD P w K mg base k f fd ps sp ∧ Binds K fd ps ds ∧ Vals dvs ds ∧ ∀ G, Reps K G df dvs
def rMake (nm : Str) (sp : SpD) (df : List D) (ra : RA) : RE := fun xd n m0 q => ra xd n m0 fun ds m1 => ∀ p, m1 p = none → sp (.ref p :: (ds ++ df)) (mset m1 p (.ins nm [])) (fun d m2 => d = .non ∧ q (.ref p) m2) fun c fs m' => xd c fs n m'
theorem de_make {j k : Nat} {nm : Str} {ps : List Str} {df : List D} {sp : SpD} {p : Pos} (c : MkD X.prog X.w X.K X.mg X.base k nm ps df sp) (hr : Room j X.A) (hk : k + 1 ≤ j) (hg : Gl X nm) (hx : Pas X W) (ha : DA X W (e :: es) ra) (hdb : (nm == ("__debug__" : Str)) = false := by decide)
    (he : starEach (e :: es) X.env = (false, eval e X.env) :: starEach es X.env := by rfl) (hpl : (backTo pos (starEach es X.env)).any (·.1) = false := by rfl) : DE X W (.Call (.Name nm p) (e :: es) [] pos) (rMake nm sp df ra) := by
  obtain ⟨C, f, fd, ds, dvs, ci, em, mk, F, b, v, rd⟩ := c.ex
  refine PE.imp (pe_makeSD (E := WE W) mk F (hr.mono hk) hg em b v hx ha hdb he hpl) fun t H Q ⟨n, m0, G, xd, q, hn, hs, hl, hr, hq⟩ => ⟨n, m0, G, xd, _, hn, hs, hl, hr, fun ds m1 vs G1 H1 e1 s1 r1 k => fun x dx hx hdx ne => ?_⟩
  have s2 : Sep X.K G1 (mset m1 x (.ins nm [])) (upd (upd H1 dx (.own x)) x (.ins C dx [])) := by
    refine Sep.alloc (H := upd H1 dx (.own x)) ⟨fun b z e => ?_, s1.out, fun b z e => ?_⟩ (by rw [upd_ne (Ne.symm ne)]; exact hx) (.ins ci .nil)
    · rw [upd_ne (fun h => by rw [h, s1.free hdx] at e; cases e)]
      exact s1.sub b z e
    · obtain ⟨u, e2, r2⟩ := s1.own b z e
      exact ⟨u, by rw [upd_ne (ne_of_none e2 hdx)]; exact e2, r2⟩
  refine ⟨.ref x :: (ds ++ df), _, G1, _, _, .cons (.ref x) (r1.append (rd G1)), s2, k x (s1.freeM hx), fun d m' v G' H' e3 s3 r3 ⟨ed, q3⟩ => ?_, fun nm c fs o m' G' H' e3 s3 r3 q3 => hl nm c fs o n m' t G' H' (e1.trans e3) s3 (hn.mono (e1.trans e3)) r3 q3⟩
  subst ed
  cases r3
  exact ⟨rfl, hq _ m' _ G' H' (e1.trans e3) s3 (.ref x) q3⟩
/-- .. and won't change any more: its fields, itself -/
def frz1 (d : D) (m : Mem) : D × Mem := match d with
  | .ref q => match m q with
    | some (.lst ds) => (.lst ds, mdel m q)
    | some (.dct true kvs) => (.dct true kvs, mdel m q)
    | _ => (.ref q, m)
  | d => (d, m)
def frzF : List (Str × D) → Mem → List (Str × D) × Mem
  | [], m => ([], m)
  | (f, d) :: r, m => ((f, (frz1 d m).1) :: (frzF r (frz1 d m).2).1, (frzF r (frz1 d m).2).2)
theorem frz1_ok {K : PySem.W.Frag} {G H : Hp} {m : Mem} {d : D} {v : V} (s : Sep K G m H) (r : Rep K G d v) : ∃ G', Same G G' ∧ Sep K G' (frz1 d m).2 H ∧ Rep K G' (frz1 d m).1 v := by
  cases d with
  | ref q =>
    cases r
    unfold frz1
    cases e : m q with
    | none => exact ⟨G, Same.refl G, by simpa [e] using s, by simpa [e] using Rep.ref q⟩
    | some o =>
      obtain ⟨u, e1, r1⟩ := s.own q o e
      cases o with
      | lst ds =>
        cases r1 with
        | lst r1 =>
          obtain ⟨s2, e2⟩ := s.freeze e e1
          exact ⟨_, e2, by simpa [e] using s2, by simpa [e] using Rep.lst upd_same (r1.mono e2)⟩
      | dct t kvs =>
        cases r1 with
        | dK r1 => exact ⟨G, Same.refl G, by simpa [e] using s, by simpa [e] using Rep.ref q⟩
        | dT z l nd r1 =>
          obtain ⟨s2, e2⟩ := s.freeze e e1
          exact ⟨_, e2, by simpa [e] using s2, by simpa [e] using Rep.dT upd_same z l nd (r1.mono e2)⟩
      | inv P => exact ⟨G, Same.refl G, by simpa [e] using s, by simpa [e] using Rep.ref q⟩
      | ins nm fs => exact ⟨G, Same.refl G, by simpa [e] using s, by simpa [e] using Rep.ref q⟩
      | tab q' => exact ⟨G, Same.refl G, by simpa [e] using s, by simpa [e] using Rep.ref q⟩
  | _ => exact ⟨G, Same.refl G, s, r⟩
theorem frzF_ok {K : PySem.W.Frag} {H : Hp} : ∀ {fs : List (Str × D)} {gs : List (Str × V)} {m : Mem} {G : Hp}, Sep K G m H → RepF K G fs gs → ∃ G', Same G G' ∧ Sep K G' (frzF fs m).2 H ∧ RepF K G' (frzF fs m).1 gs
  | [], _, m, G, s, r => by
    cases r
    exact ⟨G, Same.refl G, s, .nil⟩
  | (f, d) :: fs, _, m, G, s, r => by
    cases r with
    | cons h r =>
      obtain ⟨G1, e1, s1, r1⟩ := frz1_ok s h
      obtain ⟨G2, e2, s2, r2⟩ := frzF_ok s1 (r.mono e1)
      exact ⟨G2, e1.trans e2, s2, .cons (r1.mono e2) r2⟩
def gFrzI : D → Mem → QD → Prop
  | .ref p, m, q => ∃ nm fs, m p = some (.ins nm fs) ∧ q (.ins nm (frzF fs (mdel m p)).1) (frzF fs (mdel m p)).2
  | d, m, q => q d m
def rFrzI (r : RE) : RE := fun xd n m q => r xd n m fun d m1 => gFrzI d m1 q
theorem de_frzI (h : DE X W e re) : DE X W e (rFrzI re) := PE.imp h fun t H Q ⟨n, m, G, xd, q, hn, hs, hl, hr, hq⟩ =>
  ⟨n, m, G, xd, _, hn, hs, hl, hr, fun d m1 v G1 H1 e1 s1 r1 k => by
    cases d with
    | ref p =>
      cases r1
      obtain ⟨nm, fs, e, k⟩ := k
      obtain ⟨u, h1, r1⟩ := s1.own p _ e
      cases r1 with
      | ins c r =>
        obtain ⟨s2, e2⟩ := s1.freeze e h1
        obtain ⟨G3, e3, s3, r3⟩ := frzF_ok s2 (r.mono e2)
        exact hq _ _ _ _ H1 (e1.trans (e2.trans e3)) s3 (.ins c (e3 _ _ upd_same) r3) k
    | _ => exact hq _ m1 _ G1 H1 e1 s1 r1 k⟩
/-- a property is read -/
structure PropD (P : Program) (w : World) (K : PySem.W.Frag) (mg : Str → Option Value) (base : Heap) (k : Nat) (nm f : Str) (sp : SpD) : Prop where
  ex : ∃ C p g fd, ClsI K nm C ∧ Cls K C ∧ PropOf K C f p g ∧ FnD P w K mg base k g fd ["self"] sp ∧ Binds K fd ["self"] []
def rProp (nm : Str) (sp : SpD) (ro : RE) : RE := fun xd n m q => ro xd n m fun d m1 => ∃ fs, insOf d m1 = some (nm, fs) ∧ sp [d] m1 q fun _ _ _ => False
theorem pas_nox {X : Cx} : Passes (L2.CX X.prog X.w) X.nox (fun _ _ _ => False) := fun _ _ _ _ _ _ _ h => by
  obtain ⟨_, _, _, _, _, _, _, _, _, _, _, _, z⟩ := h
  exact z.elim
theorem de_prop {j k : Nat} {nm f : Str} {sp : SpD} (c : PropD X.prog X.w X.K X.mg X.base k nm f sp) (hr : Room j X.A) (hk : k + 1 ≤ j) (ho : DE X W o ro) (hb : attributeBase o f X.env (eval o X.env) = eval o X.env := by rfl) : DE X W (.Attribute o f pos) (rProp nm sp ro) := by
  obtain ⟨C, p, g, fd, ci, cl, po, F, b⟩ := c.ex
  refine PE.imp (pe_prop (E := fun _ _ _ => False) ho cl po F (hr.mono hk) b .nil pas_nox hb) fun t H Q ⟨n, m, G, xd, q, hn, hs, hl, hr, hq⟩ => ⟨n, m, G, xd, _, hn, hs, hl, hr, fun d m1 v G1 H1 e1 s1 r1 ⟨fs, ei, k⟩ => ?_⟩
  obtain ⟨p, C', dx, gs, rfl, ci', hp, rf⟩ := ins_at s1 r1 ei
  have := ci.eq ci'
  subst this
  exact ⟨p, dx, gs, rfl, hp, [d], m1, G1, q, _, .cons r1 .nil, s1, k, fun d m' v G' H' e3 s3 r3 q3 => hq d m' v G' H' (e1.trans e3) s3 r3 q3, fun _ _ _ _ _ _ _ _ _ _ z => z⟩
/-- isinstance(x, C), C a class of the program -/
structure IsD (K : PySem.W.Frag) (mg : Str → Option Value) (nm : Str) : Prop where
  ex : ∃ C, ClsI K nm C ∧ mg nm = some (.ref C) ∧ Cls K C ∧ PySem.W.findIn K (.ref C) "__class__" = some (some (.builtin "object.__class__")) ∧ PySem.W.mroIn K C (.type "object") = some true ∧ PySem.W.typeIn K (.ref C) = some (.type "type") ∧ PySem.W.isClsIn K C = true
def isC (nm : Str) (d : D) (m : Mem) : Option Bool := match insOf d m with
  | some (nm', _) => if nm' = nm then some true else none
  | none => (tyD d m).map fun _ => false
def rIsC (nm : Str) (r : RE) : RE := fun xd n m q => r xd n m fun d m1 => ∃ b, isC nm d m1 = some b ∧ q (.bl b) m1
end
end DL

/-! DL16: zip of two and of three, lists and tuples in any mix -/
namespace DL
open PySem PySem.Spec PyProof.Rows L2
/-- a list (true) or a tuple -/
def SqX (K : PySem.W.Frag) (H : Hp) : Bool → Addr → List V → Prop
  | true, a, xs => SqL K H a xs
  | false, a, xs => SqT K H a xs
def IsX (h : Heap) : Bool → Addr → Array Value → Prop
  | true, a, its => h.IsList a its
  | false, a, its => h.IsTuple a its
def ItX (h : Heap) : Bool → Addr → Addr → Nat → Prop
  | true, it, a, i => h.IsListIter it a i
  | false, it, a, i => h.IsTupleIter it a i
def obX : Bool → Addr → Obj
  | true, a => { cls := .type "list_iterator", data := .fields #[.ref a, .int 0 0] }
  | false, a => { cls := .type "tuple_iterator", data := .fields #[.ref a, .int 0 0] }
section
variable {X : Cx} {pins : List (Addr × Obj)} {σ : L2.St} {H : Hp} {s : Shared} {a b c it : Addr} {t t2 t3 : Bool} {xs ys zs : List V}
theorem SqX.inv (I : Inv X pins σ H s) (h : SqX X.K H t a xs) : ∃ its : List Value, Vals xs its ∧ IsX s.heap t a its.toArray ∧ a < s.heap.objs.size := by
  cases t with
  | true =>
    obtain ⟨its, rv, p, _⟩ := I.list h
    exact ⟨its, rv, p.isList, p.lt⟩
  | false =>
    obtain ⟨its, rv, p, _⟩ := I.tuple h
    exact ⟨its, rv, p, p.lt⟩
theorem SqX.inj (I : Inv X pins σ H s) (h : SqX X.K H t a xs) (h' : SqX X.K H t a ys) : xs = ys := by
  cases t with
  | true => exact I.list_inj h h'
  | false => exact I.tuple_inj h h'
theorem IsX.begins (a : Addr) (its : Array Value) : Begins (.ref a) (obX t a) fun h => IsX h t a its := by
  cases t with
  | true => exact begins_list a its
  | false => exact begins_tuple a its
theorem IsX.draws {prog : Program} {w : World} {A : Around} (hh : A.handled = none) (it a : Addr) (hne : a ≠ it) (its : Array Value) : Draws prog w A it [it, a] its.size (fun i v => its[i]? = some v) (fun i h => ItX h t it a i ∧ IsX h t a its) := by
  cases t with
  | true => exact .list hh it a hne its
  | false => exact .tuple hh it a hne its
theorem ItX.start {h : Heap} (e : h.get? it = some (obX t a)) : ItX h t it a 0 := by
  cases t with
  | true => exact ⟨_, e, rfl, rfl⟩
  | false => exact ⟨_, e, rfl, rfl⟩
theorem ItX.obj {h : Heap} {i : Nat} (x : ItX h t it a i) : ∃ o, h.get? it = some o ∧ ∀ v, o.data ≠ .cell v := by
  cases t with
  | true =>
    obtain ⟨o, e, c, d⟩ := x
    exact ⟨o, e, fun v z => by rw [d] at z; cases z⟩
  | false =>
    obtain ⟨o, e, c, d⟩ := x
    exact ⟨o, e, fun v z => by rw [d] at z; cases z⟩
theorem ItX.at {h h' : Heap} {i : Nat} (x : ItX h t it a i) (k : ∀ o, h.get? it = some o → h'.get? it = some o) : ItX h' t it a i := by
  cases t with
  | true => exact Heap.IsListIter.at x k
  | false => exact Heap.IsTupleIter.at x k
def Itz2 (K : PySem.W.Frag) (t t2 : Bool) (a b : Addr) : It :=
  ⟨fun i H => ∃ xs ys, SqX K H t a xs ∧ SqX K H t2 b ys ∧ i < min xs.length ys.length,
    fun i H v H' => ∃ T x y, v = .ref T ∧ H T = none ∧ H' = upd H T (.tup [x, y]) ∧ (∀ xs, SqX K H t a xs → xs[i]? = some x) ∧ ∀ ys, SqX K H t2 b ys → ys[i]? = some y,
    fun i H => ∃ xs ys, SqX K H t a xs ∧ SqX K H t2 b ys ∧ i = min xs.length ys.length⟩
theorem Vals.at {xs : List V} {us : List Value} {i : Nat} {u : Value} (r : Vals xs us) (h : us[i]? = some u) : ∃ x, xs[i]? = some x ∧ RelV x u := by
  have hl := r.length
  have hi : i < us.length := (List.getElem?_eq_some_iff.mp h).1
  obtain ⟨u', e, ru⟩ := r.get (List.getElem?_eq_getElem (show i < xs.length by omega))
  rw [h] at e
  cases e
  exact ⟨_, List.getElem?_eq_getElem _, ru⟩
theorem turn_zip2 {P : Program} {w : World} {K : PySem.W.Frag} {elts : List Expr} {kk : Nat} {tpos : Pos} {z TI TO i1 i2 : Addr} (S : ZipSep2 z TI TO i1 i2 [i1, a] [i2, b]) (ha : a ≠ i1) (hb : b ≠ i2) :
    Turn P w K (.Tuple elts kk tpos) (Itz2 K t t2 a b) [z, TI, TO, i1, i2] z (fun i h => IsZip h z TI TO .none ∧ IsTupOf2 h TI (.ref i1) (.ref i2) ∧ (∃ x y, IsTupOf2 h TO x y) ∧ ItX h t i1 a i ∧ ItX h t2 i2 b i) where
  mem := by simp
  obj := fun i h st c hc => by
    obtain ⟨hz, hTI, ⟨x, y, hTO⟩, h1, h2⟩ := st
    simp only [List.mem_cons, List.not_mem_nil, or_false] at hc
    rcases hc with rfl | rfl | rfl | rfl | rfl
    · exact ⟨_, hz, fun v q => nomatch q⟩
    · exact ⟨_, hTI, fun v q => nomatch q⟩
    · exact ⟨_, hTO, fun v q => nomatch q⟩
    · exact h1.obj
    · exact h2.obj
  keep := fun i h h' ⟨hz, hTI, ⟨x, y, hTO⟩, h1, h2⟩ k => ⟨k z (by simp) _ hz, k TI (by simp) _ hTI, ⟨x, y, k TO (by simp) _ hTO⟩, h1.at fun o q => k i1 (by simp) o q, h2.at fun o q => k i2 (by simp) o q⟩
  item := by
    intro X hP hw hK hc i pins s σ H E I hf ⟨hz, hTI, hTO, h1, h2⟩ ⟨xs, ys, hqx, hqy, hi⟩
    subst hP hw hK
    obtain ⟨us, ru, px, _⟩ := hqx.inv I
    obtain ⟨ws, rw', py, _⟩ := hqy.inv I
    have W := GoesN.zip2 (prog := X.prog) (w := X.w) (A := X.A) (elts := elts) (x1 := kk) (pos := tpos) S (IsX.draws (A := X.A.in1) (t := t) (I.ok.hd hc) i1 a ha us.toArray) (IsX.draws (A := X.A.in1) (t := t2) (I.ok.hd hc) i2 b hb ws.toArray)
    have e1 := ru.length
    have e2 := rw'.length
    refine W.goes i s _ E (by simpa [← e1, ← e2] using hi) ⟨hz, hTI, hTO, ⟨h1, px⟩, ⟨h2, py⟩⟩ fun v h' tk ⟨T, u, u2, ev, hT, hu, hu2, hTup⟩ ⟨z', TI', TO', ⟨h1', _⟩, ⟨h2', _⟩⟩ hk htk => ?_
    subst ev
    obtain ⟨x, hx, rx⟩ := Vals.at ru (by simpa using hu)
    obtain ⟨y, hy, ry⟩ := Vals.at rw' (by simpa using hu2)
    have new : ObjOk X.prog X.w (upd H T (.tup [x, y])) h' T (.tup [x, y]) := ⟨by show 2 ≤ sizeLine; decide, [u, u2], .cons rx (.cons ry .nil), hTup⟩
    have I1 : Inv X pins σ (upd H T (.tup [x, y])) { s with heap := h', toks := tk } := I.turnedNew (t' := tk) (ch := [z, TI, TO, i1, i2]) (fun c o hb q => hk c o (fun hm => hb (by simp at hm ⊢; rcases hm with h | h | h | h <;> simp [h])) q) hf hT new
    refine ⟨.ref T, _, I1, rfl, ⟨T, x, y, rfl, I.hok.fresh hT, rfl, fun l hl => by rw [hl.inj I hqx]; exact hx, fun l hl => by rw [hl.inj I hqy]; exact hy⟩, ⟨z', TI', TO', h1', h2'⟩, fun c hcm => ?_⟩
    have hlt : c < s.heap.objs.size := by
      obtain ⟨x0, y0, hTO⟩ := hTO
      simp only [List.mem_cons, List.not_mem_nil, or_false] at hcm
      rcases hcm with rfl | rfl | rfl | rfl | rfl
      · exact Heap.lt_size hz
      · exact Heap.lt_size hTI
      · exact Heap.lt_size hTO
      · obtain ⟨o, e, _⟩ := h1.obj; exact Heap.lt_size e
      · obtain ⟨o, e, _⟩ := h2.obj; exact Heap.lt_size e
    rw [upd_ne (Nat.ne_of_lt (Nat.lt_of_lt_of_le hlt hT))]
    exact (hf c hcm).1
  done := by
    intro X hP hw hK hc i pins s σ H E I hf ⟨hz, hTI, hTO, h1, h2⟩ ⟨xs, ys, hqx, hqy, hi⟩
    subst hP hw hK
    obtain ⟨us, ru, px, _⟩ := hqx.inv I
    obtain ⟨ws, rw', py, _⟩ := hqy.inv I
    have W := GoesN.zip2 (prog := X.prog) (w := X.w) (A := X.A) (elts := elts) (x1 := kk) (pos := tpos) S (IsX.draws (A := X.A.in1) (t := t) (I.ok.hd hc) i1 a ha us.toArray) (IsX.draws (A := X.A.in1) (t := t2) (I.ok.hd hc) i2 b hb ws.toArray)
    have e1 := ru.length
    have e2 := rw'.length
    have ei : i = min us.toArray.size ws.toArray.size := by simpa [← e1, ← e2] using hi
    rw [ei] at h1 h2
    exact W.stops s _ E ⟨hz, hTI, hTO, ⟨h1, px⟩, ⟨h2, py⟩⟩ fun h' tk hk htk => I.turnedL (t' := tk) (ch := [z, TI, TO, i1, i2]) (fun c o hb q => hk c o (fun hm => hb (by simp at hm ⊢; rcases hm with h | h | h | h <;> simp [h])) q) hf
  self := fun A i s Q E st h => wpAny_pyIter_zip st.1 h
theorem sep2 {n a b : Nat} (ha : a < n) (hb : b < n) : ZipSep2 (n + 4) (n + 2) (n + 3) n (n + 1) [n, a] [n + 1, b] := by
  constructor <;> simp only [List.mem_cons, List.not_mem_nil, or_false, not_or, ne_eq, or_true, true_or] <;> (repeat' apply And.intro) <;> (intro h; have h2 : (_ : Nat) = _ := h; omega)
def iZip2 (K : PySem.W.Frag) (ta : TA) : TI := fun σ H R => ta σ H fun vs H1 => ∃ a b t t2 xs ys, vs = [.ref a, .ref b] ∧ SqX K H1 t a xs ∧ SqX K H1 t2 b ys ∧ R (Itz2 K t t2 a b) H1
theorem pi_zip2 {e e2 : Expr} {ta : TA} {p pos tpos : Pos} {elts : List Expr} {kk : Nat} (hg : Gl X "zip") (hm : X.mg "zip" = none) (ha : PA X [e, e2] ta)
    (hs : starEach [e, e2] X.env = (false, eval e X.env) :: starEach [e2] X.env := by rfl) (hpl : (backTo pos (starEach [e2] X.env)).any (·.1) = false := by rfl) : PI X (.Tuple elts kk tpos) (.Call (.Name "zip" p) [e, e2] [] pos) (iZip2 X.K ta) := by
  refine ⟨fun pins s σ H R I h => ?_⟩
  refine Call_ (ld_blt I hg hm PyProof.Rows.boot_zip (PyProof.Rows.callWith_type1 (thn (ha.run pos pins s σ H _ I h) fun us s1 ⟨vs, H1, I1, r1, a, b, t, t2, xs, ys, ev, hqx, hqy, q⟩ => ?_) hs hpl))
  subst ev
  cases r1 with
  | cons r rr =>
    cases rr with
    | cons r' rr =>
      cases rr; cases r; cases r'
      obtain ⟨us, ru, px, la⟩ := hqx.inv I1
      obtain ⟨ws, rw', py, lb⟩ := hqy.inv I1
      refine zip_begins2 (IsX.begins a us.toArray) (IsX.begins b ws.toArray) px py fun h' hz hTI hTO h1 h2 hsz hk => wpAny_pyIter_zip hz ?_
      refine ⟨s1.heap.objs.size + 4, [s1.heap.objs.size + 4, s1.heap.objs.size + 2, s1.heap.objs.size + 3, s1.heap.objs.size, s1.heap.objs.size + 1], _, _, H1, rfl, I1.kept (t' := s1.toks) hk, turn_zip2 (sep2 la lb) (Nat.ne_of_lt la) (Nat.ne_of_lt (Nat.lt_succ_of_lt lb)), ⟨hz, hTI, ⟨_, _, hTO⟩, .start h1, .start h2⟩, fun c hcm => ?_, q⟩
      have hle : s1.heap.objs.size ≤ c := by
        simp only [List.mem_cons, List.not_mem_nil, or_false] at hcm
        rcases hcm with z | z | z | z | z <;> rw [z] <;> first | exact Nat.le_add_right _ _ | exact Nat.le_refl _
      exact I1.fpOk hle (I1.hok.fresh hle)
/-! three -/
def Itz3 (K : PySem.W.Frag) (t t2 t3 : Bool) (a b c : Addr) : It :=
  ⟨fun i H => ∃ xs ys zs, SqX K H t a xs ∧ SqX K H t2 b ys ∧ SqX K H t3 c zs ∧ i < min (min xs.length ys.length) zs.length,
    fun i H v H' => ∃ T x y u, v = .ref T ∧ H T = none ∧ H' = upd H T (.tup [x, y, u]) ∧ (∀ xs, SqX K H t a xs → xs[i]? = some x) ∧ (∀ ys, SqX K H t2 b ys → ys[i]? = some y) ∧ ∀ zs, SqX K H t3 c zs → zs[i]? = some u,
    fun i H => ∃ xs ys zs, SqX K H t a xs ∧ SqX K H t2 b ys ∧ SqX K H t3 c zs ∧ i = min (min xs.length ys.length) zs.length⟩
theorem turn_zip3 {P : Program} {w : World} {K : PySem.W.Frag} {elts : List Expr} {kk : Nat} {tpos : Pos} {z TI TO i1 i2 i3 : Addr} (S : ZipSep3 z TI TO i1 i2 i3 [i1, a] [i2, b] [i3, c]) (ha : a ≠ i1) (hb : b ≠ i2) (hc' : c ≠ i3) :
    Turn P w K (.Tuple elts kk tpos) (Itz3 K t t2 t3 a b c) [z, TI, TO, i1, i2, i3] z (fun i h => IsZip h z TI TO .none ∧ IsTupOf3 h TI (.ref i1) (.ref i2) (.ref i3) ∧ (∃ x y u, IsTupOf3 h TO x y u) ∧ ItX h t i1 a i ∧ ItX h t2 i2 b i ∧ ItX h t3 i3 c i) where
  mem := by simp
  obj := fun i h st d hd => by
    obtain ⟨hz, hTI, ⟨x, y, u, hTO⟩, h1, h2, h3⟩ := st
    simp only [List.mem_cons, List.not_mem_nil, or_false] at hd
    rcases hd with rfl | rfl | rfl | rfl | rfl | rfl
    · exact ⟨_, hz, fun v q => nomatch q⟩
    · exact ⟨_, hTI, fun v q => nomatch q⟩
    · exact ⟨_, hTO, fun v q => nomatch q⟩
    · exact h1.obj
    · exact h2.obj
    · exact h3.obj
  keep := fun i h h' ⟨hz, hTI, ⟨x, y, u, hTO⟩, h1, h2, h3⟩ k => ⟨k z (by simp) _ hz, k TI (by simp) _ hTI, ⟨x, y, u, k TO (by simp) _ hTO⟩, h1.at fun o q => k i1 (by simp) o q, h2.at fun o q => k i2 (by simp) o q, h3.at fun o q => k i3 (by simp) o q⟩
  item := by
    intro X hP hw hK hc i pins s σ H E I hf ⟨hz, hTI, hTO, h1, h2, h3⟩ ⟨xs, ys, zs, hqx, hqy, hqz, hi⟩
    subst hP hw hK
    obtain ⟨us, ru, px, _⟩ := hqx.inv I
    obtain ⟨ws, rw', py, _⟩ := hqy.inv I
    obtain ⟨vs, rv, pz, _⟩ := hqz.inv I
    have W := GoesN.zip3 (prog := X.prog) (w := X.w) (A := X.A) (elts := elts) (x1 := kk) (pos := tpos) S (IsX.draws (A := X.A.in1) (t := t) (I.ok.hd hc) i1 a ha us.toArray) (IsX.draws (A := X.A.in1) (t := t2) (I.ok.hd hc) i2 b hb ws.toArray) (IsX.draws (A := X.A.in1) (t := t3) (I.ok.hd hc) i3 c hc' vs.toArray)
    have e1 := ru.length
    have e2 := rw'.length
    have e3 := rv.length
    refine W.goes i s _ E (by simpa [← e1, ← e2, ← e3] using hi) ⟨hz, hTI, hTO, ⟨h1, px⟩, ⟨h2, py⟩, ⟨h3, pz⟩⟩ fun v h' tk ⟨T, u, u2, u3, ev, hT, hu, hu2, hu3, hTup⟩ ⟨z', TI', TO', ⟨h1', _⟩, ⟨h2', _⟩, ⟨h3', _⟩⟩ hk htk => ?_
    subst ev
    obtain ⟨x, hx, rx⟩ := Vals.at ru (by simpa using hu)
    obtain ⟨y, hy, ry⟩ := Vals.at rw' (by simpa using hu2)
    obtain ⟨y3, hy3, ry3⟩ := Vals.at rv (by simpa using hu3)
    have new : ObjOk X.prog X.w (upd H T (.tup [x, y, y3])) h' T (.tup [x, y, y3]) := ⟨by show 3 ≤ sizeLine; decide, [u, u2, u3], .cons rx (.cons ry (.cons ry3 .nil)), hTup⟩
    have I1 : Inv X pins σ (upd H T (.tup [x, y, y3])) { s with heap := h', toks := tk } := I.turnedNew (t' := tk) (ch := [z, TI, TO, i1, i2, i3]) (fun c o hb q => hk c o (fun hm => hb (by simp at hm ⊢; rcases hm with h | h | h | h | h <;> simp [h])) q) hf hT new
    refine ⟨.ref T, _, I1, rfl, ⟨T, x, y, y3, rfl, I.hok.fresh hT, rfl, fun l hl => by rw [hl.inj I hqx]; exact hx, fun l hl => by rw [hl.inj I hqy]; exact hy, fun l hl => by rw [hl.inj I hqz]; exact hy3⟩, ⟨z', TI', TO', h1', h2', h3'⟩, fun d hcm => ?_⟩
    have hlt : d < s.heap.objs.size := by
      obtain ⟨x0, y0, u0, hTO⟩ := hTO
      simp only [List.mem_cons, List.not_mem_nil, or_false] at hcm
      rcases hcm with rfl | rfl | rfl | rfl | rfl | rfl
      · exact Heap.lt_size hz
      · exact Heap.lt_size hTI
      · exact Heap.lt_size hTO
      · obtain ⟨o, e, _⟩ := h1.obj; exact Heap.lt_size e
      · obtain ⟨o, e, _⟩ := h2.obj; exact Heap.lt_size e
      · obtain ⟨o, e, _⟩ := h3.obj; exact Heap.lt_size e
    rw [upd_ne (Nat.ne_of_lt (Nat.lt_of_lt_of_le hlt hT))]
    exact (hf d hcm).1
  done := by
    intro X hP hw hK hc i pins s σ H E I hf ⟨hz, hTI, hTO, h1, h2, h3⟩ ⟨xs, ys, zs, hqx, hqy, hqz, hi⟩
    subst hP hw hK
    obtain ⟨us, ru, px, _⟩ := hqx.inv I
    obtain ⟨ws, rw', py, _⟩ := hqy.inv I
    obtain ⟨vs, rv, pz, _⟩ := hqz.inv I
    have W := GoesN.zip3 (prog := X.prog) (w := X.w) (A := X.A) (elts := elts) (x1 := kk) (pos := tpos) S (IsX.draws (A := X.A.in1) (t := t) (I.ok.hd hc) i1 a ha us.toArray) (IsX.draws (A := X.A.in1) (t := t2) (I.ok.hd hc) i2 b hb ws.toArray) (IsX.draws (A := X.A.in1) (t := t3) (I.ok.hd hc) i3 c hc' vs.toArray)
    have e1 := ru.length
    have e2 := rw'.length
    have e3 := rv.length
    have ei : i = min (min us.toArray.size ws.toArray.size) vs.toArray.size := by simpa [← e1, ← e2, ← e3] using hi
    rw [ei] at h1 h2 h3
    exact W.stops s _ E ⟨hz, hTI, hTO, ⟨h1, px⟩, ⟨h2, py⟩, ⟨h3, pz⟩⟩ fun h' tk hk htk => I.turnedL (t' := tk) (ch := [z, TI, TO, i1, i2, i3]) (fun c o hb q => hk c o (fun hm => hb (by simp at hm ⊢; rcases hm with h | h | h | h | h <;> simp [h])) q) hf
  self := fun A i s Q E st h => wpAny_pyIter_zip st.1 h
theorem sep3 {n a b c : Nat} (ha : a < n) (hb : b < n) (hc : c < n) : ZipSep3 (n + 5) (n + 3) (n + 4) n (n + 1) (n + 2) [n, a] [n + 1, b] [n + 2, c] := by
  constructor <;> simp only [List.mem_cons, List.not_mem_nil, or_false, not_or, ne_eq, or_true, true_or] <;> (repeat' apply And.intro) <;> (intro h; have h2 : (_ : Nat) = _ := h; omega)
def iZip3 (K : PySem.W.Frag) (ta : TA) : TI := fun σ H R => ta σ H fun vs H1 => ∃ a b c t t2 t3 xs ys zs, vs = [.ref a, .ref b, .ref c] ∧ SqX K H1 t a xs ∧ SqX K H1 t2 b ys ∧ SqX K H1 t3 c zs ∧ R (Itz3 K t t2 t3 a b c) H1
theorem pi_zip3 {e e2 e3 : Expr} {ta : TA} {p pos tpos : Pos} {elts : List Expr} {kk : Nat} (hg : Gl X "zip") (hm : X.mg "zip" = none) (ha : PA X [e, e2, e3] ta)
    (hs : starEach [e, e2, e3] X.env = (false, eval e X.env) :: starEach [e2, e3] X.env := by rfl) (hpl : (backTo pos (starEach [e2, e3] X.env)).any (·.1) = false := by rfl) : PI X (.Tuple elts kk tpos) (.Call (.Name "zip" p) [e, e2, e3] [] pos) (iZip3 X.K ta) := by
  refine ⟨fun pins s σ H R I h => ?_⟩
  refine Call_ (ld_blt I hg hm PyProof.Rows.boot_zip (PyProof.Rows.callWith_type1 (thn (ha.run pos pins s σ H _ I h) fun us s1 ⟨vs, H1, I1, r1, a, b, c, t, t2, t3, xs, ys, zs, ev, hqx, hqy, hqz, q⟩ => ?_) hs hpl))
  subst ev
  cases r1 with
  | cons r rr =>
    cases rr with
    | cons r' rr =>
      cases rr with
      | cons r'' rr =>
        cases rr; cases r; cases r'; cases r''
        obtain ⟨us, ru, px, la⟩ := hqx.inv I1
        obtain ⟨ws, rw', py, lb⟩ := hqy.inv I1
        obtain ⟨vs, rv, pz, lc⟩ := hqz.inv I1
        refine zip_begins3 (IsX.begins a us.toArray) (IsX.begins b ws.toArray) (IsX.begins c vs.toArray) px py pz fun h' hz hTI hTO h1 h2 h3 hsz hk => wpAny_pyIter_zip hz ?_
        refine ⟨s1.heap.objs.size + 5, [s1.heap.objs.size + 5, s1.heap.objs.size + 3, s1.heap.objs.size + 4, s1.heap.objs.size, s1.heap.objs.size + 1, s1.heap.objs.size + 2], _, _, H1, rfl, I1.kept (t' := s1.toks) hk, turn_zip3 (sep3 la lb lc) (Nat.ne_of_lt la) (Nat.ne_of_lt (Nat.lt_succ_of_lt lb)) (Nat.ne_of_lt (Nat.lt_succ_of_lt (Nat.lt_succ_of_lt lc))), ⟨hz, hTI, ⟨_, _, _, hTO⟩, .start h1, .start h2, .start h3⟩, fun d hcm => ?_, q⟩
        have hle : s1.heap.objs.size ≤ d := by
          simp only [List.mem_cons, List.not_mem_nil, or_false] at hcm
          rcases hcm with z | z | z | z | z | z <;> rw [z] <;> first | exact Nat.le_add_right _ _ | exact Nat.le_refl _
        exact I1.fpOk hle (I1.hok.fresh hle)
end
/-! ### over data: what is walked stays as it is from here on -/
/-- the items; a list of one's own won't change any more -/
def frzL : D → Mem → Option (List D × Mem)
  | .lst ds, m => some (ds, m)
  | .tup ds, m => some (ds, m)
  | .ref p, m => match m p with
    | some (.lst ds) => some (ds, mdel m p)
    | _ => none
  | _, _ => none
theorem frzL_ok {K : PySem.W.Frag} {G H : Hp} {m m' : Mem} {d : D} {v : V} {ds : List D} (s : Sep K G m H) (r : Rep K G d v) (h : frzL d m = some (ds, m')) : ∃ G' p t vs, Same G G' ∧ Sep K G' m' H ∧ v = .ref p ∧ SqX K G' t p vs ∧ (∀ G2 H2, Same G' G2 → Same G2 H2 → SqX K H2 t p vs) ∧ Reps K G' ds vs := by
  cases r with
  | lst e r =>
    cases h
    exact ⟨G, _, true, _, Same.refl G, s, rfl, SqL.of e, fun G2 H2 a b => SqL.of (b _ _ (a _ _ e)), r⟩
  | tup e r =>
    cases h
    exact ⟨G, _, false, _, Same.refl G, s, rfl, SqT.of e, fun G2 H2 a b => SqT.of (b _ _ (a _ _ e)), r⟩
  | ref p =>
    have h : (match m p with | some (.lst ds) => some (ds, mdel m p) | _ => none) = some (ds, m') := h
    split at h
    · rename_i e
      cases h
      obtain ⟨vs, h1, r1⟩ := s.lst e
      obtain ⟨s2, e2⟩ := s.freeze e h1
      exact ⟨_, p, true, vs, e2, s2, rfl, SqL.of upd_same, fun G2 H2 a b => SqL.of (b _ _ (a _ _ upd_same)), r1.mono e2⟩
    · cases h
  | _ => cases h
section
variable {X : Cx} {W : WX} {pos : Pos} {e e2 e3 : Expr} {ra : RA}
def zipD2 (xs ys : List D) : List D := (xs.zip ys).map fun p => .tup [p.1, p.2]
def zipD3 (xs ys zs : List D) : List D := ((xs.zip ys).zip zs).map fun p => .tup [p.1.1, p.1.2, p.2]
def rZip2 (r : RA) : RI := fun xd n m q => r xd n m fun ds m1 => ∃ x y xs ys m2 m3, ds = [x, y] ∧ frzL x m1 = some (xs, m2) ∧ frzL y m2 = some (ys, m3) ∧ q (zipD2 xs ys) m3
def rZip3 (r : RA) : RI := fun xd n m q => r xd n m fun ds m1 => ∃ x y z xs ys zs m2 m3 m4, ds = [x, y, z] ∧ frzL x m1 = some (xs, m2) ∧ frzL y m2 = some (ys, m3) ∧ frzL z m3 = some (zs, m4) ∧ q (zipD3 xs ys zs) m4
theorem di_zip2 {p tpos : Pos} {elts : List Expr} {kk : Nat} (hg : Gl X "zip") (hm : X.mg "zip" = none) (ha : DA X W [e, e2] ra)
    (hs : starEach [e, e2] X.env = (false, eval e X.env) :: starEach [e2] X.env := by rfl) (hpl : (backTo pos (starEach [e2] X.env)).any (·.1) = false := by rfl) : DI X W (.Tuple elts kk tpos) (.Call (.Name "zip" p) [e, e2] [] pos) (rZip2 ra) :=
  PI.imp (pi_zip2 hg hm ha hs hpl) fun t H R ⟨n, m, G, xd, q, hn, hs, hl, hr, hq⟩ => ⟨n, m, G, xd, _, hn, hs, hl, hr, fun ds m1 vs G1 H1 e1 s1 r1 ⟨x, y, xs, ys, m2, m3, ed, ex, ey, k⟩ => by
    subst ed
    cases r1 with
    | cons rx r1 =>
      cases r1 with
      | cons ry r1 =>
        cases r1
        obtain ⟨G2, p, tx, us, a2, s2, rfl, qx, qx', rux⟩ := frzL_ok s1 rx ex
        obtain ⟨G3, p', ty, ws, a3, s3, rfl, qy, qy', ruy⟩ := frzL_ok s2 (ry.mono a2) ey
        have lx := rux.length
        have ly := ruy.length
        have cx : ∀ {G' H' : Hp} {m' : Mem}, Same G3 G' → Sep X.K G' m' H' → SqX X.K H' tx p us := fun a b => qx' _ _ (a3.trans a) b.sub
        have cy : ∀ {G' H' : Hp} {m' : Mem}, Same G3 G' → Sep X.K G' m' H' → SqX X.K H' ty p' ws := fun a b => qy' _ _ a b.sub
        refine ⟨p, p', tx, ty, us, ws, rfl, cx (Same.refl _) s3, cy (Same.refl _) s3, hq _ m3 G3 H1 _ (e1.trans (a2.trans a3)) s3 ⟨fun i H' m' G' a b hi => ⟨us, ws, cx a b, cy a b, by simpa [zipD2, lx, ly] using hi⟩, fun i x H' H2 m' G' a b hi ⟨T, z, z2, ev, hT, eH, hx, hy⟩ => ?_, fun H' m' G' a b => ⟨us, ws, cx a b, cy a b, by simp [zipD2, lx, ly]⟩⟩ k⟩
        subst ev eH
        obtain ⟨d1, f1, g1⟩ := (rux.mono a3).getV (hx us (cx a b))
        obtain ⟨d2, f2, g2⟩ := ruy.getV (hy ws (cy a b))
        obtain ⟨s5, e5⟩ := b.laid hT (.tup [z, z2])
        refine ⟨_, .tup [d1, d2], ?_, e5, s5, .tup upd_same (.cons (g1.mono (a.trans e5)) (.cons (g2.mono (a.trans e5)) .nil))⟩
        simp [zipD2, List.getElem?_zip_eq_some, f1, f2]⟩
theorem di_zip3 {p tpos : Pos} {elts : List Expr} {kk : Nat} (hg : Gl X "zip") (hm : X.mg "zip" = none) (ha : DA X W [e, e2, e3] ra)
    (hs : starEach [e, e2, e3] X.env = (false, eval e X.env) :: starEach [e2, e3] X.env := by rfl) (hpl : (backTo pos (starEach [e2, e3] X.env)).any (·.1) = false := by rfl) : DI X W (.Tuple elts kk tpos) (.Call (.Name "zip" p) [e, e2, e3] [] pos) (rZip3 ra) :=
  PI.imp (pi_zip3 hg hm ha hs hpl) fun t H R ⟨n, m, G, xd, q, hn, hs, hl, hr, hq⟩ => ⟨n, m, G, xd, _, hn, hs, hl, hr, fun ds m1 vs G1 H1 e1 s1 r1 ⟨x, y, z, xs, ys, zs, m2, m3, m4, ed, ex, ey, ez, k⟩ => by
    subst ed
    cases r1 with
    | cons rx r1 =>
      cases r1 with
      | cons ry r1 =>
        cases r1 with
        | cons rz r1 =>
          cases r1
          obtain ⟨G2, p, tx, us, a2, s2, rfl, qx, qx', rux⟩ := frzL_ok s1 rx ex
          obtain ⟨G3, p', ty, ws, a3, s3, rfl, qy, qy', ruy⟩ := frzL_ok s2 (ry.mono a2) ey
          obtain ⟨G4, p'', tz, vs, a4, s4, rfl, qz, qz', ruz⟩ := frzL_ok s3 (rz.mono (a2.trans a3)) ez
          have lx := rux.length
          have ly := ruy.length
          have lz := ruz.length
          have cx : ∀ {G' H' : Hp} {m' : Mem}, Same G4 G' → Sep X.K G' m' H' → SqX X.K H' tx p us := fun a b => qx' _ _ (a3.trans (a4.trans a)) b.sub
          have cy : ∀ {G' H' : Hp} {m' : Mem}, Same G4 G' → Sep X.K G' m' H' → SqX X.K H' ty p' ws := fun a b => qy' _ _ (a4.trans a) b.sub
          have cz : ∀ {G' H' : Hp} {m' : Mem}, Same G4 G' → Sep X.K G' m' H' → SqX X.K H' tz p'' vs := fun a b => qz' _ _ a b.sub
          refine ⟨p, p', p'', tx, ty, tz, us, ws, vs, rfl, cx (Same.refl _) s4, cy (Same.refl _) s4, cz (Same.refl _) s4, hq _ m4 G4 H1 _ (e1.trans (a2.trans (a3.trans a4))) s4 ⟨fun i H' m' G' a b hi => ⟨us, ws, vs, cx a b, cy a b, cz a b, by simpa [zipD3, lx, ly, lz] using hi⟩, fun i x H' H2 m' G' a b hi ⟨T, z, z2, z3, ev, hT, eH, hx, hy, hz⟩ => ?_, fun H' m' G' a b => ⟨us, ws, vs, cx a b, cy a b, cz a b, by simp [zipD3, lx, ly, lz]⟩⟩ k⟩
          subst ev eH
          obtain ⟨d1, f1, g1⟩ := (rux.mono (a3.trans a4)).getV (hx us (cx a b))
          obtain ⟨d2, f2, g2⟩ := (ruy.mono a4).getV (hy ws (cy a b))
          obtain ⟨d3, f3, g3⟩ := ruz.getV (hz vs (cz a b))
          obtain ⟨s5, e5⟩ := b.laid hT (.tup [z, z2, z3])
          refine ⟨_, .tup [d1, d2, d3], ?_, e5, s5, .tup upd_same (.cons (g1.mono (a.trans e5)) (.cons (g2.mono (a.trans e5)) (.cons (g3.mono (a.trans e5)) .nil)))⟩
          simp [zipD3, List.getElem?_zip_eq_some, f1, f2, f3]
          exact ⟨_, _, _, ⟨⟨rfl, rfl⟩, rfl⟩, rfl, rfl, rfl⟩⟩
end
end DL

/-! DL17: defs with defaults; isinstance of own classes -/
namespace DL
open PySem PySem.Spec PyProof.Rows L2
section
variable {P : Program} {w : World} {K : PySem.W.Frag} {mg : Str → Option Value} {base : Heap}
/-- THE RULE for a def with defaults -/
theorem fnSd {x qual : Str} {st : Stmt} {f : Addr} {fd : FuncData} {N ps : List Str} {k : Nat} {sp : SpD} {dvs : List V} (F : FunD K x qual (defArgs st) (defBody st) (defScope st) dvs [] f fd) (S : FnScope N ps (defScope st)) (len : ∀ ds m q xf, sp ds m q xf → ds.length = ps.length)
    (hbody : ∀ (cdv : Value) (A : Around) (outer : List Env) (s : Shared) (H : Hp) (E : XK), Room k (A.deeper (envOfC qual (defScope st) s.heap.objs.size f cdv)) →
      ∃ r, DSs (cxOf (L2.CX P w) P w K mg base N qual (defScope st) f cdv A outer s H E) (WF E) (defBody st) r ∧ ∀ ds m q xf, sp ds m q xf → r (xdD xf) (enD q) (nvs N ds) m) : FnD P w K mg base (k + 1) f fd ps sp := by
  refine F.ok S (fun vs H Q E ⟨ds, m, G, q, xf, hr, hs, h, _⟩ => by rw [← hr.length]; exact len ds m q xf h) fun cdv A outer s H vs Q E hr ⟨ds, m, G, q, xf, rs, hs, h, hq, hx⟩ => ?_
  obtain ⟨r, hd, hv⟩ := hbody cdv A outer s H E hr
  refine ⟨_, hd, _, m, G, _, _, ?_, hs, ?_, hv ds m q xf h, ?_⟩
  · unfold nvs L2.start
    rw [← rs.length]
    exact RepN.start _ rs
  · exact fun nm c fs o _ m' t G' H' e1 s1 _ r1 ⟨m1, z, k⟩ => hx nm c fs o m1 G' H' e1 (s1.sub' z) r1 k
  · exact ⟨fun n m' t G' H' e1 s1 _ ⟨m1, z, k⟩ => hq .non m1 .non G' H' e1 (s1.sub' z) .non k, fun d m' v G' H' e1 s1 r1 ⟨m1, z, k⟩ => hq d m1 v G' H' e1 (s1.sub' z) r1 k, fun _ _ _ _ _ _ _ _ k => k.elim, fun _ _ _ _ _ _ _ _ k => k.elim⟩
end
section
variable {X : Cx} {W : WX} {pos : Pos} {e : Expr} {re : RE}
theorem tyD_class (K : PySem.W.Frag) {C : Addr} (ht : PySem.W.typeIn K (.ref C) = some (.type "type")) (hi : PySem.W.isClsIn K C = true) : ∀ a ∈ ["NoneType", "bool", "int", "str", "tuple", "list", "dict"], PySem.W.kitOne K (.type a) (.ref C) = some false := by
  intro a ha
  have hi' : (PySem.W.clsIn K C).isSome = true := hi
  have key : ∀ l : List Value, (∀ v ∈ l, ∃ n, v = Value.type n) → l.contains (Value.ref C) = false := fun l hl => by
    rw [Bool.eq_false_iff]
    intro z
    rw [List.contains_iff_mem] at z
    obtain ⟨n, e⟩ := hl _ z
    cases e
  show (if (Value.type a == Value.ref C) = true then some true else (if ((PySem.W.clsIn K C).isSome && PySem.W.typeIn K (.ref C) == some (.type "type")) = true then (fastBuiltinMro a).map (·.contains (Value.ref C)) else none)) = _
  rw [if_neg (by intro z; cases (beq_iff_eq.mp z)), hi', ht, if_pos (by rfl)]
  simp only [List.mem_cons, List.not_mem_nil, or_false] at ha
  have mk : ∀ (a : String) (l : List String), fastBuiltinMro a = some (l.map Value.type) → (fastBuiltinMro a).map (·.contains (Value.ref C)) = some false := fun a l h => by
    rw [h, Option.map_some, key _ fun v hv => by obtain ⟨n, _, e⟩ := List.mem_map.mp hv; exact ⟨n, e.symm⟩]
  rcases ha with rfl | rfl | rfl | rfl | rfl | rfl | rfl
  · exact mk _ ["NoneType", "object"] (by decide +kernel)
  · exact mk _ ["bool", "int", "object"] (by decide +kernel)
  · exact mk _ ["int", "object"] (by decide +kernel)
  · exact mk _ ["str", "object"] (by decide +kernel)
  · exact mk _ ["tuple", "object"] (by decide +kernel)
  · exact mk _ ["list", "object"] (by decide +kernel)
  · exact mk _ ["dict", "object"] (by decide +kernel)
theorem de_isC {nm : Str} {p p2 : Pos} (c : IsD X.K X.mg nm) (hg : Gl X "isinstance") (hm : X.mg "isinstance" = none) (hg2 : Gl X nm) (he : DE X W e re) (hdb : (nm == ("__debug__" : Str)) = false := by decide)
    (hs : starEach [e, .Name nm p2] X.env = [(false, eval e X.env), (false, eval (.Name nm p2) X.env)] := by rfl) (hs2 : starEach [.Name nm p2] X.env = [(false, eval (.Name nm p2) X.env)] := by rfl) (hpl : (backTo pos (starEach [.Name nm p2] X.env)).any (·.1) = false := by rfl) :
    DE X W (.Call (.Name "isinstance" p) [e, .Name nm p2] [] pos) (rIsC nm re) := by
  obtain ⟨C, ci, em, cl, hc, hmro, ht, hi⟩ := c.ex
  refine PE.imp (pe_callB call_isi hg hm bt_isinstance (pa_cons he (pa_cons (pe_glob (v := .ref C) hg2 em rfl hdb) pa_nil hs2) hs) (by decide) (by decide) hs hpl) fun t H Q ⟨n, m, G, xd, q, hn, hs, hl, hr, hq⟩ => ⟨n, m, G, xd, _, hn, hs, hl, hr, fun d m1 v G1 H1 e1 s1 r1 ⟨b, eb, k⟩ => ?_⟩
  show ∃ (x c : V) (t u : Value) (b : Bool), [v, .ref C] = [x, c] ∧ ClsV c u ∧ TyX X.K H1 x t ∧ PySem.W.kitOne X.K t u = some b ∧ Q (.bl b) H1
  unfold isC at eb
  cases ei : insOf d m1 with
  | some p =>
    obtain ⟨nm', fs⟩ := p
    rw [ei] at eb
    simp only at eb
    split at eb
    · rename_i en
      cases eb
      subst en
      obtain ⟨p, C', dx, gs, rfl, ci', hp, rf⟩ := ins_at s1 r1 ei
      have := ci.eq ci'
      subst this
      exact ⟨_, _, .ref C, .ref C, true, rfl, .own C, .base (.ins hp cl hc (special_class X.K) (takes_class X.K) hmro), by unfold PySem.W.kitOne; rw [if_pos (by simp)], hq _ m1 _ G1 H1 e1 s1 (.bl true) k⟩
    · cases eb
  | none =>
    rw [ei] at eb
    simp only at eb
    cases et : tyD d m1 with
    | none => rw [et] at eb; cases eb
    | some a =>
      rw [et] at eb
      cases eb
      obtain ⟨h1, h2⟩ := tyD_ok s1 r1 et
      exact ⟨_, _, .type a, .ref C, false, rfl, .own C, h1, tyD_class X.K ht hi a h2, hq _ m1 _ G1 H1 e1 s1 (.bl false) k⟩
end
end DL

/-! DL18: sorted(text), xs[::-1], == of lists that may still change at any depth -/
namespace DL
open PySem PySem.Spec PySem.Calls PyProof.Rows L2
section
variable {prog : Program} {w : World} {A : Around} {E : Value → Shared → Prop} {s : Shared}
def signD (c : Nat) : PyData := .str ⟨#[c]⟩
theorem each_signs {x : Str} {acc : Array Value} (h : ItemsOf (SignAt x) acc x.cps.size) : PySem.W.EachIs (fun v c => ∃ t, v = .str ⟨#[c]⟩ t) acc.toList x.cps.toList := by
  have hv := vals_signs h
  have key : ∀ (cs : List Nat) (us : List Value), Vals (cs.map fun c => V.str ⟨#[c]⟩) us → PySem.W.EachIs (fun v c => ∃ t, v = .str ⟨#[c]⟩ t) us cs := by
    intro cs
    induction cs with
    | nil =>
      intro us h
      cases h
      exact .nil
    | cons c cs ih =>
      intro us h
      cases h with
      | cons r hs => exact .cons r (ih _ hs)
  exact key _ _ hv
theorem collect_text {x : Str} {t : Tok} {Q : List Value → Shared → Prop} (hh : A.handled = none) (hn : x.cps.size ≤ sizeLine)
    (hQ : ∀ h' tk acc, (∀ b o, s.heap.get? b = some o → h'.get? b = some o) → s.heap.objs.size < h'.objs.size → ItemsOf (SignAt x) acc x.cps.size → Q acc.toList { s with heap := h', toks := tk }) : wpAny (model prog w) A (collect (.str x t)) Q E s := by
  have hS : (s.heap.push { cls := .type "list", data := .seq ([] : List Value).toArray }).get? s.heap.objs.size = some { cls := .type "list", data := .seq #[] 0 } := Heap.get?_push_size _ rfl
  have key : ∀ R : Result → Shared → Prop, (∀ h' tk acc c, (∀ b o, b ≠ s.heap.objs.size → (s.heap.push { cls := .type "list", data := .seq ([] : List Value).toArray }).get? b = some o → h'.get? b = some o) → h'.get? s.heap.objs.size = some { cls := .type "list", dict := none, data := .seq acc c, slots := #[] } → ItemsOf (SignAt x) acc x.cps.size → R (.ok (.ret (.ref s.heap.objs.size))) { s with heap := h', toks := tk }) →
      codeAny (model prog w) A (.builtin "list.__iadd__" ⟨[.ref s.heap.objs.size, .str x t], []⟩) R { s with heap := s.heap.push { cls := .type "list", data := .seq ([] : List Value).toArray } } := fun R hR => by
    refine codeAny_builtin PySem.F.entry_list_iadd ?_
    rw [Around.under_plainId PySem.F.plain_list_iadd _]
    exact text_extend (R := R) (s := { s with heap := s.heap.push { cls := .type "list", data := .seq ([] : List Value).toArray } }) hh s.heap.objs.size (.ref s.heap.objs.size) 0 hS hR hn
  unfold collect
  refine wpAny_bind (wpAny_runValue (codeAny_builtin PySem.F.entry_proto_collect ?_))
  rw [Around.under_plainId PySem.F.plain_proto_collect _]
  show wpAny _ A.in1 (newList [] >>= fun l => again (Code.builtin "list.__iadd__" ⟨[l, Value.str x t], []⟩)) _ _ s
  refine wpAny_bind (wpAny_newObj_type (wpAny_pure ⟨plainId_quiet PySem.F.plain_list_iadd _, key _ fun h' tk acc c hk hA hacc => ?_⟩))
  exact wpAny_bind (wpAny_load hA (wpAny_pure (hQ h' tk acc (fun b o e => hk b o (Nat.ne_of_lt (Heap.lt_size e)) (Heap.get?_push_of_some _ e)) (Heap.lt_size hA) hacc)))
theorem sorted_text {x : Str} {t : Tok} {Q : Value → Shared → Prop} (hh : A.handled = none) (hn : x.cps.size ≤ sizeLine) (hu : A.units + 2 < cLine)
    (h : ∀ (h' : Heap) (tk : Nat) (n : Addr) (out : List Value) (e : Nat), (∀ b o, s.heap.get? b = some o → h'.get? b = some o) → s.heap.objs.size ≤ n → h'.get? n = some (seqObj "list" out.toArray e) → PySem.W.EachIs (fun v c => ∃ t, v = .str ⟨#[c]⟩ t) out (x.cps.toList.mergeSort (PySem.W.dataLe false signD)) → Q (.ref n) { s with heap := h', toks := tk }) :
    wpAny (model prog w) A (call (.builtin "sorted") [.str x t]) Q E s := by
  refine call_function_entry kind_sorted plain_sorted entry_sorted (args_sorted1 _) (show wpAny _ _ (Builtin.«sorted» _) _ _ _ from ?_)
  unfold Builtin.«sorted»
  refine wpAny_bind (m := checkCount "sorted" 1 1 _) (wpAny_pure (wpAny_bind (collect_text hh hn fun h1 tk acc hk hlt hacc => ?_)))
  have hz : acc.toList.length = x.cps.size := by
    rw [Array.length_toList]
    exact hacc.1
  refine wpAny_bind (wpAny_newList ?_ (by rw [hz]; exact hn))
  have hat : (h1.push (seqObj "list" acc.toList.toArray 0)).get? h1.objs.size = some (seqObj "list" acc.toList.toArray 0) := Heap.get?_push_size _ rfl
  refine wpAny_bind (wpAny_holding (wpAny_call_entry_kw slot_list_sort ⟨_, hat, rfl⟩ entry_list_sort ?body (PyProof.Rows.args_list_sort _)))
  case body =>
    show wpAny (model prog w) A.in1.in1 (Builtin.«list.sort» ⟨[.ref h1.objs.size], []⟩) _ _ _
    have ea := each_signs hacc
    have er : PySem.W.EachIs (fun v c => ∃ as, Reads (PySem.W.sortingHeap (h1.push (seqObj "list" acc.toList.toArray 0)) h1.objs.size acc.toList) v (signD c) as) acc.toList x.cps.toList := ea.mono fun v c ⟨t, e⟩ => by
      subst e
      exact ⟨_, .str _ _⟩
    have hal : PySem.W.AllAlike (x.cps.toList.map signD) := .of fun _ _ => rfl
    refine wpAny_mono (PySem.W.list_sort_vals (s := { s with toks := tk, heap := h1.push (seqObj "list" acc.toList.toArray 0) }) (κ := PySem.W.dataKind (PySem.W.sortingHeap (h1.push (seqObj "list" acc.toList.toArray 0)) h1.objs.size acc.toList) (x.cps.toList.map signD)) (P := fun f s' => f = .done (.ret .none) ∧ Q (.ref h1.objs.size) s') hat ?_ (by rw [hz]; exact hn) ⟨rfl, ?_⟩) (fun f s' hf => ?_) fun _ _ e => e
    · exact PySem.W.SortsAt.data (PySem.W.each_map (R := fun v d => ∃ as, Reads _ v d as) signD er) hal (.others fun _ => ⟨(by intro z; cases z), fun _ z => by cases z⟩) (PySem.W.bound_map fun b _ => by simpa [signD, PyData.depth, Around.in1] using hu)
    · obtain ⟨e, he⟩ := PyProof.Rows.sortedHeap_at (vs := acc.toList) (out := (PySem.W.sortVals (PySem.W.dataKind (PySem.W.sortingHeap (h1.push (seqObj "list" acc.toList.toArray 0)) h1.objs.size acc.toList) (x.cps.toList.map signD)) false acc.toList acc.toList).toArray) hat
      refine h (PyProof.Rows.sortedHeap (h1.push (seqObj "list" acc.toList.toArray 0)) h1.objs.size acc.toList (PySem.W.sortVals (PySem.W.dataKind (PySem.W.sortingHeap (h1.push (seqObj "list" acc.toList.toArray 0)) h1.objs.size acc.toList) (x.cps.toList.map signD)) false acc.toList acc.toList).toArray) tk h1.objs.size _ e (fun b o eb => ?_) ?_ he (PySem.W.sortVals_data false ea er hal)
      · have hb := hk b o eb
        rw [PyProof.Rows.sortedHeap_old (Nat.ne_of_lt (Heap.lt_size hb)) (Nat.lt_of_lt_of_le (Heap.lt_size hb) (by rw [size_push']; exact Nat.le_succ _))]
        exact Heap.get?_push_of_some _ hb
      · exact Nat.le_of_lt hlt
    · obtain ⟨rfl, hq⟩ := hf
      exact ⟨_, rfl, wpAny_pure ⟨_, rfl, hq⟩⟩
end
section
variable {X : Cx} {W : WX} {pos : Pos} {e : Expr} {re : RE}
theorem le_signs : PySem.W.dataLe false signD = fun a b => decide (a ≤ b) := by
  show PySem.W.dataLe false (fun c => PyData.str ⟨#[c]⟩) = _
  rw [PySem.W.dataLe_str]
  funext a b
  rw [decide_eq_decide]
  constructor
  · intro h
    exact Nat.le_of_not_lt fun z => h (List.Lex.rel z)
  · intro h z
    cases z with
    | rel z => exact Nat.lt_irrefl _ (Nat.lt_of_lt_of_le z h)
    | cons z => cases z
theorem cr_sortedText (hc : X.calm = true) (hu : X.A.units + 64 < cLine) : CallR X (.builtin "sorted") (fun xs H Q => ∃ z : Str, xs = [.str z] ∧ z.length ≤ sizeLine ∧ ∀ l, H l = none → Q (.ref l) (upd H l (.lst ((z.cps.toList.mergeSort fun a b => decide (a ≤ b)).map fun c => V.str ⟨#[c]⟩)))) := by
  intro pins s σ H xs us Q I r h
  obtain ⟨z, rfl, hz, q⟩ := h
  obtain ⟨u, rfl, t, rfl⟩ := vals1 r
  refine sorted_text (I.ok.hd hc) hz (by omega) fun h' tk n out c hk hn hS ho => ?_
  rw [le_signs] at ho
  have key : ∀ (us : List Value) (cs : List Nat), PySem.W.EachIs (fun v c => ∃ t, v = Value.str ⟨#[c]⟩ t) us cs → Vals (cs.map fun c => V.str ⟨#[c]⟩) us := by
    intro us
    induction us with
    | nil =>
      intro cs h
      cases h
      exact .nil
    | cons u us ih =>
      intro cs h
      cases h with
      | cons a b => exact .cons a (ih _ b)
  have new : ObjOk X.prog X.w (upd H n (.lst ((z.cps.toList.mergeSort fun a b => decide (a ≤ b)).map fun c => V.str ⟨#[c]⟩))) h' n (.lst ((z.cps.toList.mergeSort fun a b => decide (a ≤ b)).map fun c => V.str ⟨#[c]⟩)) := by
    refine ⟨?_, out, c, key _ _ ho, hS⟩
    rw [List.length_map, List.length_mergeSort]
    exact hz
  exact ⟨.ref n, _, I.laid hk hn new, rfl, q _ (I.hok.fresh hn)⟩
def gSortT : List D → Mem → QD → Prop
  | [.str a], m, q => a.length ≤ sizeLine ∧ q (.lst (chars (a.mergeSort fun a b => decide (a ≤ b)))) m
  | _, _, _ => False
theorem cd_sortT (hc : X.calm = true) (hu : X.A.units + 64 < cLine) : CallR X (.builtin "sorted") (lowC X.K gSortT) := crN (cr_sortedText hc hu) fun H G m ds vs q Q hr hs hg hq => by
  unfold gSortT at hg
  split at hg
  · rename_i a
    cases hr with
    | cons h r =>
      cases r
      cases h
      refine ⟨_, rfl, by rw [str_len]; exact hg.1, fun l hl => ?_⟩
      obtain ⟨s2, e2⟩ := hs.laid hl (.lst (((⟨a.toArray⟩ : Str).cps.toList.mergeSort fun a b => decide (a ≤ b)).map fun c => V.str ⟨#[c]⟩))
      exact hq _ m _ _ _ e2 s2 (.lst upd_same (by simpa using (Reps.chars (K := X.K) (a.mergeSort fun a b => decide (a ≤ b))))) hg.2
  · exact False.elim hg
/-! ### xs[::-1] -/
def rRev (r : RE) : RE := fun xd n m q => r xd n m fun d m1 => ∃ ds, lstOf d m1 = some ds ∧ q (.lst ds.reverse) m1
theorem Reps.rev {K : PySem.W.Frag} {G : Hp} : ∀ {ds : List D} {vs : List V}, Reps K G ds vs → Reps K G ds.reverse vs.reverse
  | _, _, .nil => .nil
  | _, _, .cons h r => by
    rw [List.reverse_cons, List.reverse_cons]
    exact (Reps.rev r).append (.cons h .nil)
theorem de_rev {k : Nat} {p1 p2 p3 : Pos} (h : DE X W e re) : DE X W (.Subscript e (.Slice none none (some (.UnaryOp .USub (.Constant (.int 1) k p1) p2)) p3) pos) (rRev re) := PE.imp (pe_revL h) fun t H Q ⟨n, m, G, xd, q, hn, hs, hl, hr, hq⟩ =>
  ⟨n, m, G, xd, _, hn, hs, hl, hr, fun d m1 v G1 H1 e1 s1 r1 ⟨ds, ed, k⟩ => by
    obtain ⟨p, vs, rfl, hp, ra⟩ := lst_at s1 r1 ed
    refine ⟨p, vs, rfl, SqL.of hp, fun l hl => ?_⟩
    obtain ⟨s2, e2⟩ := s1.laid hl (.lst vs.reverse)
    exact hq _ m1 _ _ _ (e1.trans e2) s2 (.lst upd_same ((ra.mono e2).rev)) k⟩
end
/-! ### what may still change, seen as it is now -/
mutual
inductive Vw (m : Mem) : D → D → Prop
  | sca {d : D} : sca d = true → Vw m d d
  | tup {ds es : List D} : Vws m ds es → Vw m (.tup ds) (.tup es)
  | lst {ds es : List D} : Vws m ds es → Vw m (.lst ds) (.lst es)
  | ref {p : Addr} {ds es : List D} : m p = some (.lst ds) → Vws m ds es → Vw m (.ref p) (.lst es)
inductive Vws (m : Mem) : List D → List D → Prop
  | nil : Vws m [] []
  | cons {d e : D} {ds es : List D} : Vw m d e → Vws m ds es → Vws m (d :: ds) (e :: es)
end
mutual
theorem Vw.rep {K : PySem.W.Frag} {G H : Hp} {m : Mem} (s : Sep K G m H) : ∀ {x y : D} {v : V}, Vw m x y → Rep K G x v → Rep K H y v
  | _, _, _, .sca h, r => r.mono s.sub
  | _, _, _, .tup h, r => by
    cases r with
    | tup e r => exact .tup (s.sub _ _ e) (Vws.rep s h r)
  | _, _, _, .lst h, r => by
    cases r with
    | lst e r => exact .lst (s.sub _ _ e) (Vws.rep s h r)
  | _, _, _, .ref e h, r => by
    cases r
    obtain ⟨vs, h1, r1⟩ := s.lst e
    exact .lst h1 (Vws.rep s h r1)
theorem Vws.rep {K : PySem.W.Frag} {G H : Hp} {m : Mem} (s : Sep K G m H) : ∀ {xs ys : List D} {vs : List V}, Vws m xs ys → Reps K G xs vs → Reps K H ys vs
  | _, _, _, .nil, r => by
    cases r
    exact .nil
  | _, _, _, .cons h t, r => by
    cases r with
    | cons h1 r1 => exact .cons (Vw.rep s h h1) (Vws.rep s t r1)
end
mutual
theorem fl_vw {m : Mem} : ∀ (n : Nat) (d : D), fl n d = true → Vw m d d
  | n, .non, _ => .sca rfl
  | n, .bl _, _ => .sca rfl
  | n, .int _, _ => .sca rfl
  | n, .str _, _ => .sca rfl
  | n, .tup ds, h => by
    cases n with
    | zero => simp [fl] at h
    | succ n => exact .tup (fls_vw n ds (by simpa [fl] using h))
  | n, .lst ds, h => by
    cases n with
    | zero => simp [fl] at h
    | succ n => exact .lst (fls_vw n ds (by simpa [fl] using h))
  | n, .ref _, h => by cases n <;> simp [fl] at h
  | n, .ty _, h => by cases n <;> simp [fl] at h
  | n, .scr _, h => by cases n <;> simp [fl] at h
  | n, .ins _ _, h => by cases n <;> simp [fl] at h
  | n, .exc _ _ _ _ _, h => by cases n <;> simp [fl] at h
  | n, .dct _ _, h => by cases n <;> simp [fl] at h
theorem fls_vw {m : Mem} : ∀ (n : Nat) (ds : List D), fls n ds = true → Vws m ds ds
  | n, [], _ => .nil
  | n, d :: ds, h => by
    have h : fl n d = true ∧ fls n ds = true := by simpa [fls] using h
    exact .cons (fl_vw n d h.1) (fls_vw n ds h.2)
end
section
variable {X : Cx} {W : WX} {pos : Pos}
def gEqV (f : Bool → Bool) : G2 := fun x y m q => ∃ x' y', Vw m x x' ∧ Vw m y y' ∧ fl 60 x' = true ∧ fl 60 y' = true ∧ q (.bl (f (eqD x' y'))) m
theorem odEqV (hu : X.A.units + 64 < cLine) : OpR X (compareOp .Eq) (low2 X.K (gEqV fun b => b)) := opN fun pins s σ H G m dx dy x y v u q Q I rx ry hx hy hs ⟨x', y', h1, h2, f1, f2, k⟩ hq =>
  op_eqD hu pins s σ H x y v u Q I rx ry ⟨_, _, (h1.rep hs hx).dp 60 f1, (h2.rep hs hy).dp 60 f2, fl_shaped f1 (by decide), fl_shaped f2 (by decide), hq.here hs (.bl _) k⟩
theorem odNeV (hu : X.A.units + 64 < cLine) : OpR X (compareOp .NotEq) (low2 X.K (gEqV fun b => !b)) := opN fun pins s σ H G m dx dy x y v u q Q I rx ry hx hy hs ⟨x', y', h1, h2, f1, f2, k⟩ hq =>
  op_neD hu pins s σ H x y v u Q I rx ry ⟨_, _, (h1.rep hs hx).dp 60 f1, (h2.rep hs hy).dp 60 f2, fl_shaped f1 (by decide), fl_shaped f2 (by decide), hq.here hs (.bl _) k⟩
end
end DL

/-! DL19: walks over lists that may still change, and stay so -/
namespace DL
open PySem PySem.Spec PyProof.Rows L2
section
variable {X : Cx} {W : WX} {pos : Pos} {e : Expr} {re : RE}
structure SrcK (K : PySem.W.Frag) (G : Hp) (J : It) (C : Mem → Prop) (ds : List D) : Prop where
  go : ∀ i H m G', Same G G' → Sep K G' m H → C m → i < ds.length → J.go i H
  yld : ∀ i x H H' m G', Same G G' → Sep K G' m H → C m → i < ds.length → J.yld i H x H' → ∃ G'' d, ds[i]? = some d ∧ Same G' G'' ∧ Sep K G'' m H' ∧ Rep K G'' d x
  stop : ∀ H m G', Same G G' → Sep K G' m H → C m → J.stop ds.length H
theorem Src.k {K : PySem.W.Frag} {G : Hp} {J : It} {ds : List D} (S : Src K G J ds) : SrcK K G J (fun _ => True) ds :=
  ⟨fun i H m G' e s _ h => S.go i H m G' e s h, fun i x H H' m G' e s _ h y => S.yld i x H H' m G' e s h y, fun H m G' e s _ => S.stop H m G' e s⟩
abbrev RIK := XD → Nv → Mem → (List D → (Mem → Prop) → Mem → Prop) → Prop
def lowIK (K : PySem.W.Frag) (W : WX) (r : RIK) : TI := fun t H R => ∃ (n : Nv) (m : Mem) (G : Hp) (xd : XD) (q : List D → (Mem → Prop) → Mem → Prop), RepN K G n t ∧ Sep K G m H ∧ LinkX K W G xd ∧ r xd n m q ∧
  ∀ ds C m' G' H' J, Same G G' → Sep K G' m' H' → SrcK K G' J C ds → q ds C m' → R J H'
abbrev DIK (X : Cx) (W : WX) (tg iter : Expr) (r : RIK) : Prop := PI X tg iter (lowIK X.K W r)
theorem src_live {K : PySem.W.Frag} {G : Hp} {a : Addr} {ds : List D} : SrcK K G (Itl K a) (fun m => m a = some (.lst ds)) ds where
  go := fun i H m G' e s c hi => by
    obtain ⟨vs, h1, r1⟩ := s.lst c
    obtain ⟨v, e1, _⟩ := r1.get (List.getElem?_eq_getElem hi)
    exact ⟨vs, v, SqL.of h1, e1⟩
  yld := fun i x H H' m G' e s c hi y => by
    obtain ⟨rfl, y⟩ := y
    obtain ⟨vs, h1, r1⟩ := s.lst c
    obtain ⟨d, e2, r2⟩ := r1.getV (y vs (SqL.of h1))
    exact ⟨G', d, e2, Same.refl _, s, r2⟩
  stop := fun H m G' e s c => by
    obtain ⟨vs, h1, r1⟩ := s.lst c
    exact ⟨vs, SqL.of h1, by rw [r1.length]; exact Nat.le_refl _⟩
/-- the items of what is walked; C: what must hold at each turn -/
def gAllK : D → Mem → (List D → (Mem → Prop) → Mem → Prop) → Prop
  | .lst ds, m1, q => q ds (fun _ => True) m1
  | .tup ds, m1, q => q ds (fun _ => True) m1
  | .str a, m1, q => q (chars a) (fun _ => True) m1
  | .ref p, m1, q => ∃ ds, m1 p = some (.lst ds) ∧ q ds (fun m => m p = some (.lst ds)) m1
  | _, _, _ => False
def rAllK (r : RE) : RIK := fun xd n m q => r xd n m fun d m1 => gAllK d m1 q
theorem di_keep {tg : Expr} (h : DE X W e re) : DIK X W tg e (rAllK re) := PI.imp (pi_any h) fun t H R ⟨n, m, G, xd, q, hn, hs, hl, hr, hq⟩ =>
  ⟨n, m, G, xd, _, hn, hs, hl, hr, fun d m1 v G1 H1 e1 s1 r1 k => by
    cases r1 with
    | lst e r => exact .inl ⟨_, rfl, ⟨_, SqL.of (s1.sub _ _ e)⟩, hq _ _ m1 G1 H1 _ e1 s1 (src_list e r).k k⟩
    | tup e r => exact .inr (.inl ⟨_, rfl, ⟨_, SqT.of (s1.sub _ _ e)⟩, hq _ _ m1 G1 H1 _ e1 s1 (src_tup e r).k k⟩)
    | str a => exact .inr (.inr ⟨_, rfl, hq _ _ m1 G1 H1 _ e1 s1 src_str.k k⟩)
    | ref p =>
      obtain ⟨ds, e, k⟩ := k
      obtain ⟨vs, h1, r1⟩ := s1.lst e
      exact .inl ⟨_, rfl, ⟨vs, SqL.of h1⟩, hq ds _ m1 G1 H1 _ e1 s1 src_live k⟩
    | _ => exact False.elim k⟩
/-! ### comprehensions -/
def compK (T : Tgt) (tt : RT) (te : RE) (n : Nv) (C : Mem → Prop) (P : Addr) (k : Mem → Prop) : List D → Mem → Prop
  | [], m => C m ∧ k m
  | x :: xs, m => C m ∧ setT T x n fun n2 => tt xd0 n2 m fun b m1 => if b = true then te xd0 n2 m1 fun d m2 => ∃ acc, m2 P = some (.lst acc) ∧ acc.length < sizeLine ∧ compK T tt te n C P k xs (mset m2 P (.lst (acc ++ [d]))) else compK T tt te n C P k xs m1
def rLcK (ri : RIK) (T : Tgt) (tt : RT) (te : RE) (vs : List Nat) : RE := fun xd n m q => ri xd n m fun ds C m1 => ∀ P, m1 P = none → compK T tt te (wipeN n vs) C P (fun m2 => ∃ acc, m2 P = some (.lst acc) ∧ q (.lst acc) (mdel m2 P)) ds (mset m1 P (.lst []))
def rLcKO (ri : RIK) (T : Tgt) (tt : RT) (te : RE) (vs : List Nat) : RE := fun xd n m q => ri xd n m fun ds C m1 => ∀ P, m1 P = none → compK T tt te (wipeN n vs) C P (fun m2 => q (.ref P) m2) ds (mset m1 P (.lst []))
theorem lc_lowK {ri : RIK} {T : Tgt} {tt : RT} {te : RE} {vs : List Nat} {kk : Addr → Mem → Prop} {Q : VK} {t : L2.St} {H : Hp} (hw : T.within vs = true) {n : Nv} {m : Mem} {G : Hp} {xd : XD} (hn : RepN X.K G n t) (hs : Sep X.K G m H) (hl : LinkX X.K W G xd)
    (hr : ri xd n m fun ds C m1 => ∀ P, m1 P = none → compK T tt te (wipeN n vs) C P (kk P) ds (mset m1 P (.lst [])))
    (hq : ∀ P m2 G2 H2, Same G G2 → Sep X.K G2 m2 H2 → kk P m2 → Q (.ref P) H2) :
    tLc (lowIK X.K W ri) (gT X.K T) (lowT X.K W0 tt) (lowE X.K W0 te) vs t H Q := by
  refine ⟨n, m, G, xd, _, hn, hs, hl, hr, fun ds C m1 G1 H1 J e1 s1 S k P hP => ?_⟩
  refine ⟨fun i z H => z = ds.length - i ∧ i ≤ ds.length ∧ ∃ m G', Same G1 G' ∧ Sep X.K G' m H ∧ compK T tt te (wipeN n vs) C P (kk P) (ds.drop i) m, ⟨ds.length, by simp, Nat.zero_le _, _, G1, Same.refl _, s1.alloc hP (.lst .nil), k P (s1.freeM hP)⟩, ?_⟩
  rintro i z H2 ⟨rfl, hi, m2, G2, e2, s2, k2⟩
  by_cases hlt : i < ds.length
  · rw [List.drop_eq_getElem_cons hlt, compK] at k2
    obtain ⟨c2, k2⟩ := k2
    refine .inr ⟨S.go i H2 m2 G2 e2 s2 c2 hlt, fun H' => ∃ m G', Same G1 G' ∧ Sep X.K G' m H' ∧ compK T tt te (wipeN n vs) C P (kk P) (ds.drop (i + 1)) m, fun H' h => ⟨ds.length - (i + 1), by omega, rfl, hlt, h⟩, fun x H' y => ?_⟩
    obtain ⟨G3, d, ed, e3, s3, r3⟩ := S.yld i x H2 H' m2 G2 e2 s2 c2 hlt y
    have ed' : ds[i] = d := by
      rw [List.getElem?_eq_getElem hlt] at ed
      exact Option.some.inj ed
    rw [ed'] at k2
    have e13 := e1.trans (e2.trans e3)
    refine setT_okW s3 r3 (wipe_rep (hn.mono e13) vs) k2 hw fun n' t' rn ew q => ⟨by rw [ew, wipe_wipe], ?_⟩
    refine ⟨n', m2, G3, xd0, _, rn, s3, link0, q, fun b m4 G4 H4 e4 s4 q4 => ?_⟩
    cases b with
    | true =>
      refine ⟨n', m4, G4, xd0, _, rn.mono e4, s4, link0, q4, fun d m5 v G5 H5 e5 s5 r5 ⟨acc, ma, hz, q5⟩ => ?_⟩
      obtain ⟨us, h1, r6⟩ := s5.lst ma
      exact ⟨us, h1, by rw [← r6.length]; exact hz, _, G5, e2.trans (e3.trans (e4.trans e5)), s5.write ma (.lst (r6.append (.cons r5 .nil))), q5⟩
    | false => exact ⟨m4, G4, e2.trans (e3.trans e4), s4, q4⟩
  · have e : i = ds.length := by omega
    subst e
    rw [List.drop_length, compK] at k2
    exact .inl ⟨S.stop H2 m2 G2 e2 s2 k2.1, hq P m2 G2 H2 (e1.trans e2) s2 k2.2⟩
section
variable {elt tg iter : Expr} {ifs : List Expr} {scope : Scope} {own : List (Str × Nat)} {ri : RIK} {T : Tgt} {tt : RT} {te : RE}
theorem de_lcK {vs : List Nat} (hc : X.calm = true) (hN : X.N.Nodup) (hi : DIK X W tg iter ri) (ok : BlkOk X.N X.env.scope scope own) (hv : own.map (·.2) = vs) (hw : T.within vs = true)
    (hg : ∀ (s : Shared) (H : Hp) (C : Addr) (cl : List (Str × Addr)) (fp : List Addr), PG (X.blk s H scope (compEnvC scope cl C X.env) fp) tg (gT X.K T)) (ht : ∀ (s : Shared) (H : Hp) (C : Addr) (cl : List (Str × Addr)) (fp : List Addr), DTs (X.blk s H scope (compEnvC scope cl C X.env) fp) W0 ifs tt)
    (he : ∀ (s : Shared) (H : Hp) (C : Addr) (cl : List (Str × Addr)) (fp : List Addr), DE (X.blk s H scope (compEnvC scope cl C X.env) fp) W0 elt te) (hs : ∀ x, foldedSetIterable iter X.env x = pure x := by intro _; rfl) :
    DE X W (.ListComp elt [⟨tg, iter, ifs, 0⟩] scope pos) (rLcK ri T tt te vs) := by
  subst hv
  exact PE.imp (pe_lc hc hN hi ok hg ht he hs) fun t H Q ⟨n, m, G, xd, q, hn, hs, hl, hr, hq⟩ =>
    lc_lowK hw hn hs hl hr (frz_end hq)
theorem de_lcKO {vs : List Nat} (hc : X.calm = true) (hN : X.N.Nodup) (hi : DIK X W tg iter ri) (ok : BlkOk X.N X.env.scope scope own) (hv : own.map (·.2) = vs) (hw : T.within vs = true)
    (hg : ∀ (s : Shared) (H : Hp) (C : Addr) (cl : List (Str × Addr)) (fp : List Addr), PG (X.blk s H scope (compEnvC scope cl C X.env) fp) tg (gT X.K T)) (ht : ∀ (s : Shared) (H : Hp) (C : Addr) (cl : List (Str × Addr)) (fp : List Addr), DTs (X.blk s H scope (compEnvC scope cl C X.env) fp) W0 ifs tt)
    (he : ∀ (s : Shared) (H : Hp) (C : Addr) (cl : List (Str × Addr)) (fp : List Addr), DE (X.blk s H scope (compEnvC scope cl C X.env) fp) W0 elt te) (hs : ∀ x, foldedSetIterable iter X.env x = pure x := by intro _; rfl) :
    DE X W (.ListComp elt [⟨tg, iter, ifs, 0⟩] scope pos) (rLcKO ri T tt te vs) := by
  subst hv
  exact PE.imp (pe_lc hc hN hi ok hg ht he hs) fun t H Q ⟨n, m, G, xd, q, hn, hs, hl, hr, hq⟩ =>
    lc_lowK hw hn hs hl hr (own_end hq)
end
/-! ### for -/
def forK (T : Tgt) (b : RS) (xd : XD) (C : Mem → Prop) : List D → EN → Nv → Mem → Prop
  | [], e, n, m => C m ∧ e.nx n m
  | x :: xs, e, n, m => C m ∧ setT T x n fun n1 => b xd ⟨forK T b xd C xs e, e.rt, e.nx, forK T b xd C xs e⟩ n1 m
def rForK (ri : RIK) (T : Tgt) (b : RS) : RS := fun xd e n m => ri xd n m fun ds C m1 => forK T b xd C ds e n m1
end
end DL

/-! DL20: how the newer readings run -/
namespace DL
open PySem PySem.Spec PyProof.Rows L2
theorem bt_sorted : bootBuiltins "sorted" = some (.builtin "sorted") := by decide +kernel
theorem bt_zip : bootBuiltins "zip" = some (.type "zip") := by decide +kernel
section
variable {m : Mem} {q : QD} {ds : List D} {a : List Nat} {p : Addr} {r : List D → (Mem → Prop) → Mem → Prop} {nm : Str} {fs : List (Str × D)}
theorem ew0 : gAllK (.lst ds) m r = r ds (fun _ => True) m := rfl
theorem ew1 : gAllK (.tup ds) m r = r ds (fun _ => True) m := rfl
theorem ew2 : gAllK (.str a) m r = r (chars a) (fun _ => True) m := rfl
theorem ew3 : gAllK (.ref p) m r = (∃ ds, m p = some (.lst ds) ∧ r ds (fun m => m p = some (.lst ds)) m) := rfl
theorem ew4 : gSortT [.str a] m q = (a.length ≤ sizeLine ∧ q (.lst (chars (a.mergeSort fun a b => decide (a ≤ b)))) m) := rfl
theorem ew5 : gFrzI (.ref p) m q = (∃ nm fs, m p = some (.ins nm fs) ∧ q (.ins nm (frzF fs (mdel m p)).1) (frzF fs (mdel m p)).2) := rfl
theorem ew6 : insOf (.ins nm fs) m = some (nm, fs) := rfl
end
theorem insOf_ref {m : Mem} {p : Addr} {nm : Str} {fs : List (Str × D)} (h : m p = some (.ins nm fs)) : insOf (.ref p) m = some (nm, fs) := by
  show (match m p with | some (.ins nm fs) => some (nm, fs) | _ => none) = _
  rw [h]
/-- a comprehension over a list that may change, whose turn is a function of the item -/
theorem comp_fnK {T : Tgt} {tt : RT} {te : RE} {n : Nv} {P : Addr} {C k : Mem → Prop} {m : Mem} (f : D → Option D) (hC : ∀ acc, C (mset m P (.lst acc))) : ∀ (xs acc : List D), acc.length + xs.length ≤ 16000000 →
    (∀ x ∈ xs, ∀ acc : List D, acc.length < sizeLine → ∀ kk : Mem → Prop, kk (mset m P (.lst (addO acc (f x)))) → turnD T tt te n P kk x (mset m P (.lst acc))) →
    k (mset m P (.lst (acc ++ xs.filterMap f))) → compK T tt te n C P k xs (mset m P (.lst acc))
  | [], acc, _, _, hk => by
    rw [compK]
    exact ⟨hC _, by simpa using hk⟩
  | x :: xs, acc, hl, hs, hk => by
    rw [compK]
    rw [List.length_cons] at hl
    have hsz : sizeLine = 16777216 := sizeLine_eq
    refine ⟨hC _, hs x List.mem_cons_self acc (by omega) _ ?_⟩
    have hl' : (addO acc (f x)).length + xs.length ≤ 16000000 := by
      cases f x <;> simp [addO] <;> omega
    refine comp_fnK f hC xs _ hl' (fun y hy => hs y (List.mem_cons_of_mem _ hy)) ?_
    cases e : f x with
    | none =>
      rw [List.filterMap_cons_none e] at hk
      exact hk
    | some d =>
      rw [List.filterMap_cons_some e] at hk
      simpa [addO] using hk
theorem comp_goK {T : Tgt} {tt : RT} {te : RE} {n : Nv} {m : Mem} {ds : List D} {C : Mem → Prop} {k : Addr → Mem → Prop} (f : D → Option D) (hl : ds.length ≤ 16000000) (hC : ∀ P, m P = none → ∀ acc, C (mset m P (.lst acc)))
    (hs : ∀ P, m P = none → ∀ x ∈ ds, ∀ acc : List D, acc.length < sizeLine → ∀ kk : Mem → Prop, kk (mset m P (.lst (addO acc (f x)))) → turnD T tt te n P kk x (mset m P (.lst acc)))
    (hk : ∀ P, m P = none → k P (mset m P (.lst (ds.filterMap f)))) : ∀ P, m P = none → compK T tt te n C P (k P) ds (mset m P (.lst [])) := fun P hP =>
  comp_fnK f (hC P hP) ds [] (by simpa using hl) (hs P hP) (by rw [List.nil_append]; exact hk P hP)
mutual
theorem Vw.sub {m m' : Mem} (h : ∀ p ds, m p = some (.lst ds) → m' p = some (.lst ds)) : ∀ {x y : D}, Vw m x y → Vw m' x y
  | _, _, .sca e => .sca e
  | _, _, .tup r => .tup (Vws.sub h r)
  | _, _, .lst r => .lst (Vws.sub h r)
  | _, _, .ref e r => .ref (h _ _ e) (Vws.sub h r)
theorem Vws.sub {m m' : Mem} (h : ∀ p ds, m p = some (.lst ds) → m' p = some (.lst ds)) : ∀ {xs ys : List D}, Vws m xs ys → Vws m' xs ys
  | _, _, .nil => .nil
  | _, _, .cons a r => .cons (Vw.sub h a) (Vws.sub h r)
end
end DL

/-! DL21: dicts whose keys are tuples of ints and tuples -/
namespace DL
open PySem PySem.Spec PyProof.Rows L2
mutual
theorem nk_hash (w w' : World) : ∀ {d : D} {k : NestedKey}, nkOf d = some k → k.hash w = k.hash w'
  | .int i, k, h => by
    cases h
    rfl
  | .tup ds, k, h => by
    have h : (nkAll ds).map NestedKey.tup = some k := by simpa [nkOf] using h
    obtain ⟨ks, e, rfl⟩ := Option.map_eq_some_iff.mp h
    rw [NestedKey.hash, NestedKey.hash, nk_hashes w w' e]
  | .non, k, h => by simp [nkOf] at h
  | .bl _, k, h => by simp [nkOf] at h
  | .str _, k, h => by simp [nkOf] at h
  | .ref _, k, h => by simp [nkOf] at h
  | .ty _, k, h => by simp [nkOf] at h
  | .lst _, k, h => by simp [nkOf] at h
  | .scr _, k, h => by simp [nkOf] at h
  | .ins _ _, k, h => by simp [nkOf] at h
  | .exc _ _ _ _ _, k, h => by simp [nkOf] at h
  | .dct _ _, k, h => by simp [nkOf] at h
  | .fn _ _ _ _ _ _, k, h => by simp [nkOf] at h
theorem nk_hashes (w w' : World) : ∀ {ds : List D} {ks : List NestedKey}, nkAll ds = some ks → NestedKey.hashes w ks = NestedKey.hashes w' ks
  | [], ks, h => by
    cases h
    rfl
  | d :: ds, ks, h => by
    have h : ((nkOf d).bind fun k => (nkAll ds).map (k :: ·)) = some ks := by simpa [nkAll] using h
    obtain ⟨k, e1, h⟩ := Option.bind_eq_some_iff.mp h
    obtain ⟨ks', e2, rfl⟩ := Option.map_eq_some_iff.mp h
    rw [NestedKey.hashes, NestedKey.hashes, nk_hash w w' e1, nk_hashes w w' e2]
end
section
variable {X : Cx} {pins : List (Addr × Obj)} {σ : L2.St} {H : Hp} {s : Shared}
mutual
theorem nk_is (I : Inv X pins σ H s) : ∀ {d : D} {v : V} {u : Value} {k : NestedKey}, Rep X.K H d v → RelV v u → nkOf d = some k → NestedIs s.heap k u
  | _, _, _, _, .int i, r, h => by
    cases h
    obtain ⟨t, rfl⟩ := r
    exact .int i t
  | _, _, u, k, .tup (ds := ds) e rs, r, h => by
    have h : (nkAll ds).map NestedKey.tup = some k := by simpa [nkOf] using h
    obtain ⟨ks, e1, rfl⟩ := Option.map_eq_some_iff.mp h
    cases r
    obtain ⟨its, rv, ⟨o, e2, e3, n, e4⟩, _⟩ := I.tuple (SqT.of e)
    exact .tup e2 e3 e4 (nk_all I rs (by simpa using rv) e1)
  | _, _, _, _, .non, _, h => by simp [nkOf] at h
  | _, _, _, _, .bl _, _, h => by simp [nkOf] at h
  | _, _, _, _, .str _, _, h => by simp [nkOf] at h
  | _, _, _, _, .ref _, _, h => by simp [nkOf] at h
  | _, _, _, _, .ty _, _, h => by simp [nkOf] at h
  | _, _, _, _, .lst _ _, _, h => by simp [nkOf] at h
  | _, _, _, _, .scr _, _, h => by simp [nkOf] at h
  | _, _, _, _, .ins _ _ _, _, h => by simp [nkOf] at h
  | _, _, _, _, .exc _ _ _, _, h => by simp [nkOf] at h
  | _, _, _, _, .exc0 _, _, h => by simp [nkOf] at h
  | _, _, _, _, .exv _ _ _ _, _, h => by simp [nkOf] at h
  | _, _, _, _, .exv0 _ _, _, h => by simp [nkOf] at h
  | _, _, _, _, .dK _ _, _, h => by simp [nkOf] at h
  | _, _, _, _, .dT _ _ _ _ _, _, h => by simp [nkOf] at h
theorem nk_all (I : Inv X pins σ H s) : ∀ {ds : List D} {vs : List V} {us : List Value} {ks : List NestedKey}, Reps X.K H ds vs → Vals vs us → nkAll ds = some ks → NestedAll s.heap ks us
  | _, _, _, _, .nil, r, h => by
    cases h
    cases r
    exact .nil
  | _, _, us, ks, .cons (d := d) (ds := ds) a b, r, h => by
    have h : ((nkOf d).bind fun k => (nkAll ds).map (k :: ·)) = some ks := by simpa [nkAll] using h
    obtain ⟨k, e1, h⟩ := Option.bind_eq_some_iff.mp h
    obtain ⟨ks', e2, rfl⟩ := Option.map_eq_some_iff.mp h
    cases r with
    | cons r1 r2 => exact .cons (nk_is I a r1 e1) (nk_all I b r2 e2)
end
/-- the entries of the dict -/
def zipT (xs : List (NestedKey × Addr × V)) (us : List Value) : List (NestedKey × Addr × Value) := (xs.zip us).map fun z => (z.1.1, z.1.2.1, z.2)
theorem zipT_cons (x : NestedKey × Addr × V) (xs : List (NestedKey × Addr × V)) (u : Value) (us : List Value) : zipT (x :: xs) (u :: us) = (x.1, x.2.1, u) :: zipT xs us := rfl
theorem zipT_keys : ∀ {xs : List (NestedKey × Addr × V)} {us : List Value}, Vals (xs.map (·.2.2)) us → (zipT xs us).map (·.1) = xs.map (·.1)
  | [], _, r => by
    cases r
    rfl
  | x :: xs, _, r => by
    cases r with
    | cons a b => rw [zipT_cons, List.map_cons, List.map_cons, zipT_keys b]
theorem zipT_is (I : Inv X pins σ H s) : ∀ {kvs : List (D × D)} {xs : List (NestedKey × Addr × V)} {us : List Value}, RepT X.K H kvs xs → Vals (xs.map (·.2.2)) us → ∀ z ∈ zipT xs us, (nestedKind X.prog X.w).is s.heap z.1 z.2.1
  | _, _, _, .nil, r, z, hz => by
    cases r
    cases hz
  | _, _, _, .cons e hd ra rv t, r, z, hz => by
    cases r with
    | cons a b =>
      rw [zipT_cons] at hz
      rcases List.mem_cons.mp hz with rfl | hz
      · exact ⟨nk_is I ra rfl e, hd⟩
      · exact zipT_is I t b z hz
theorem zipT_entries (w w' : World) {P : Program} : ∀ {kvs : List (D × D)} {xs : List (NestedKey × Addr × V)} {us : List Value}, RepT X.K H kvs xs → Vals (xs.map (·.2.2)) us → (xs.zip us).map (fun z => (⟨z.1.1.hash w, .ref z.1.2.1, z.2⟩ : DictEntry)) = (zipT xs us).map (entryOfKey (nestedKind P w'))
  | _, _, _, .nil, r => by
    cases r
    rfl
  | _, _, _, .cons e hd ra rv t, r => by
    cases r with
    | cons a b =>
      rw [zipT_cons, List.map_cons, ← zipT_entries w w' t b, List.zip_cons_cons, List.map_cons]
      congr 1
      show (⟨_, _, _⟩ : DictEntry) = ⟨_, _, _⟩
      rw [nk_hash w w' e]
      rfl
theorem keyed_at (I : Inv X pins σ H s) {p : Addr} {ep : Nat} {kvs : List (D × D)} {xs : List (NestedKey × Addr × V)} (hp : H p = some (dNo p ep xs)) (r : RepT X.K H kvs xs) (nd : (xs.map (·.1)).Nodup) :
    ∃ us, Vals (xs.map (·.2.2)) us ∧ s.heap.DictOfH (nestedKind X.prog X.w) p (zipT xs us) := by
  obtain ⟨⟨w, o, es, us, hv, ho, hx, hd, he⟩, _, _⟩ := I.hok p _ hp
  refine ⟨us, hv, o, es, ep, ho, hx, hd, ?_, zipT_is I r hv, ?_⟩
  · rw [he]
    exact zipT_entries w X.w r hv
  · rw [zipT_keys hv]
    exact nd
/-- the value at a key -/
def getT (kvs : List (D × D)) (k : NestedKey) : Option D := (kvs.find? fun p => decide (nkOf p.1 = some k)).map (·.2)
theorem getT_at {k : NestedKey} : ∀ {kvs : List (D × D)} {xs : List (NestedKey × Addr × V)} {us : List Value}, RepT X.K H kvs xs → Vals (xs.map (·.2.2)) us →
    (getT kvs k = none ∧ atKey (zipT xs us) k = none) ∨ ∃ e v a u, getT kvs k = some e ∧ atKey (zipT xs us) k = some (a, u) ∧ Rep X.K H e v ∧ RelV v u
  | _, _, _, .nil, r => by
    cases r
    exact .inl ⟨rfl, rfl⟩
  | _, _, _, .cons (d := d) (k := k') (a := ad) e hd ra rv t, r => by
    cases r with
    | cons a b =>
      rw [zipT_cons]
      by_cases h : k' = k
      · subst h
        refine .inr ⟨_, _, ad, _, ?_, ?_, rv, a⟩
        · unfold getT
          rw [List.find?_cons_of_pos (by simpa using e)]
          rfl
        · unfold atKey
          rw [List.find?_cons_of_pos (by simp)]
          rfl
      · rcases getT_at (k := k) t b with ⟨h1, h2⟩ | ⟨e2, v2, a2, u2, h1, h2, h3⟩
        · left
          constructor
          · unfold getT at h1 ⊢
            rw [List.find?_cons_of_neg (by simpa [e] using h)]
            exact h1
          · unfold atKey at h2 ⊢
            rw [List.find?_cons_of_neg (by simpa using h)]
            exact h2
        · refine .inr ⟨e2, v2, a2, u2, ?_, ?_, h3⟩
          · unfold getT at h1 ⊢
            rw [List.find?_cons_of_neg (by simpa [e] using h)]
            exact h1
          · unfold atKey at h2 ⊢
            rw [List.find?_cons_of_neg (by simpa using h)]
            exact h2
end
/-- a dict, to be looked at -/
def moDct : Option MO → Option (Bool × List (D × D))
  | some (.dct t kvs) => some (t, kvs)
  | _ => none
def dctOf : D → Mem → Option (Bool × List (D × D))
  | .dct t kvs, _ => some (t, kvs)
  | .ref p, m => moDct (m p)
  | _, _ => none
theorem dctT_at {K : PySem.W.Frag} {G H : Hp} {m : Mem} {x : D} {v : V} {kvs : List (D × D)} (s : Sep K G m H) (r : Rep K G x v) (h : dctOf x m = some (true, kvs)) :
    ∃ p xs, v = .ref p ∧ (∃ ep, H p = some (dNo p ep xs)) ∧ (p == sysModules) = false ∧ xs.length ≤ sizeLine ∧ (xs.map (·.1)).Nodup ∧ RepT K G kvs xs := by
  cases r with
  | dT e z l n r =>
    cases h
    exact ⟨_, _, rfl, ⟨_, s.sub _ _ e⟩, z, l, n, r⟩
  | ref p =>
    have h : moDct (m p) = some (true, kvs) := h
    cases e : m p with
    | none => rw [e] at h; cases h
    | some o =>
      rw [e] at h
      cases o with
      | dct t kvs' =>
        cases h
        obtain ⟨u, e1, r1⟩ := s.own p _ e
        cases r1 with
        | dT z l n r => exact ⟨_, _, rfl, ⟨_, e1⟩, z, l, n, r⟩
      | _ => cases h
  | dK e r => cases h
  | _ => cases h
theorem dctK_at {K : PySem.W.Frag} {G H : Hp} {m : Mem} {x : D} {v : V} {kvs : List (D × D)} (s : Sep K G m H) (r : Rep K G x v) (h : dctOf x m = some (false, kvs)) :
    ∃ p us, v = .ref p ∧ Rd H p (.dK us) ∧ RepK K G kvs us := by
  cases r with
  | dK e r =>
    cases h
    exact ⟨_, _, rfl, .inr ⟨_, s.sub _ _ e⟩, r⟩
  | ref p =>
    have h : moDct (m p) = some (false, kvs) := h
    cases e : m p with
    | none => rw [e] at h; cases h
    | some o =>
      rw [e] at h
      cases o with
      | dct t kvs' =>
        cases h
        obtain ⟨u, e1, r1⟩ := s.own p _ e
        cases r1 with
        | dK r => exact ⟨_, _, rfl, .inl e1, r⟩
      | _ => cases h
  | dT e z l n r => cases h
  | fn a b r0 => cases h
  | _ => cases h
section
variable {X : Cx} {W : WX} {pos : Pos}
/-- x in d -/
def gInT (f : Bool → Bool) : D → D → Mem → QD → Prop
  | .tup ds, y, m, q => ∃ kvs k, dctOf y m = some (true, kvs) ∧ nkOf (.tup ds) = some k ∧ k.depth ≤ 8 ∧ q (.bl (f (getT kvs k).isSome)) m
  | _, _, _, _ => False
theorem isSome_at {H : Hp} {K : PySem.W.Frag} {k : NestedKey} {kvs : List (D × D)} {xs : List (NestedKey × Addr × V)} {us : List Value} (X : Cx) (hK : X.K = K) (r : RepT K H kvs xs) (hv : Vals (xs.map (·.2.2)) us) : (atKey (zipT xs us) k).isSome = (getT kvs k).isSome := by
  subst hK
  rcases getT_at (k := k) r hv with ⟨h1, h2⟩ | ⟨_, _, _, _, h1, h2, _⟩
  · rw [h1, h2]; rfl
  · rw [h1, h2]; rfl
theorem od_inT (hu : X.A.units + 64 < cLine) : OpR X (compareOp .In) (low2 X.K (gInT fun b => b)) := opN fun pins s σ H G m dx dy x y v u q Q I rx ry hx hy hs hg hq => by
  cases dx with
  | tup ds =>
    obtain ⟨kvs, k, e, ek, hd, hk⟩ := hg
    obtain ⟨p, xs, rfl, ⟨ep, hp⟩, z, l, nd, rt⟩ := dctT_at hs hy e
    have rt' := rt.mono hs.sub
    obtain ⟨us, hv, hD⟩ := keyed_at I hp rt' nd
    cases ry
    cases hx with
    | tup e1 r1 =>
      cases rx
      have hk' : (nestedKind X.prog X.w).is s.heap k _ := ⟨nk_is I ((Rep.tup e1 r1).mono hs.sub) rfl ek, hd⟩
      refine wpAny_in_heap (show X.A.in1.units + 8 < cLine by simp only [Around.in1]; omega) hk' z hD ⟨.bl _, H, I.tok _, rfl, ?_⟩
      rw [isSome_at X rfl rt' hv]
      exact hq.here hs (.bl _) hk
  | _ => exact False.elim hg
theorem od_notInT (hu : X.A.units + 64 < cLine) : OpR X (compareOp .NotIn) (low2 X.K (gInT fun b => !b)) := opN fun pins s σ H G m dx dy x y v u q Q I rx ry hx hy hs hg hq => by
  cases dx with
  | tup ds =>
    obtain ⟨kvs, k, e, ek, hd, hk⟩ := hg
    obtain ⟨p, xs, rfl, ⟨ep, hp⟩, z, l, nd, rt⟩ := dctT_at hs hy e
    have rt' := rt.mono hs.sub
    obtain ⟨us, hv, hD⟩ := keyed_at I hp rt' nd
    cases ry
    cases hx with
    | tup e1 r1 =>
      cases rx
      have hk' : (nestedKind X.prog X.w).is s.heap k _ := ⟨nk_is I ((Rep.tup e1 r1).mono hs.sub) rfl ek, hd⟩
      refine notIn_keyed (show X.A.in1.units + 8 < cLine by simp only [Around.in1]; omega) hk' z ⟨_, hD, rfl⟩ ⟨.bl _, H, I.tok _, rfl, ?_⟩
      rw [valueAt_pairsH, Option.isSome_map, isSome_at X rfl rt' hv]
      exact hq.here hs (.bl _) hk
  | _ => exact False.elim hg
/-- d[x] -/
def gIxT : D → D → Mem → QD → Prop
  | x, .tup ds, m, q => ∃ kvs k e, dctOf x m = some (true, kvs) ∧ nkOf (.tup ds) = some k ∧ k.depth ≤ 8 ∧ getT kvs k = some e ∧ q e m
  | _, _, _, _ => False
theorem xd_ixT (hu : X.A.units + 64 < cLine) : IxR X (low2 X.K gIxT) := by
  intro value slice pins s σ H x y v u Q I rx ry ⟨dx, dy, m, G, q, hx, hy, hs, hg, hq⟩ hsub
  cases dy with
  | tup ds =>
    obtain ⟨kvs, k, e, ed, ek, hd, eg, hk⟩ := hg
    obtain ⟨p, xs, rfl, ⟨ep, hp⟩, z, l, nd, rt⟩ := dctT_at hs hx ed
    have rt' := rt.mono hs.sub
    obtain ⟨us, hv, hD⟩ := keyed_at I hp rt' nd
    cases rx
    cases hy with
    | tup e1 r1 =>
      cases ry
      have hk' : (nestedKind X.prog X.w).is s.heap k _ := ⟨nk_is I ((Rep.tup e1 r1).mono hs.sub) rfl ek, hd⟩
      rcases getT_at (X := X) (H := G) (k := k) rt hv with ⟨h1, _⟩ | ⟨e', v', a', u', h1, h2, h3, h4⟩
      · rw [eg] at h1
        cases h1
      · rw [eg] at h1
        cases h1
        exact tail_any hD.typeIs slot_dict_getitem.lookup (wpAny_getItem_heap (show X.A.in1.units + 8 < cLine by simp only [Around.in1]; omega) hk' hD h2 ⟨v', H, I.tok _, h4, hq.here hs h3 hk⟩) hsub
  | _ => exact False.elim hg
variable {a b : Expr} {ra rb : RE}
theorem de_ixT (hu : X.A.units + 64 < cLine) (ha : DE X W a ra) (hb : DE X W b rb) (hs : PlainIx b) : DE X W (.Subscript a b pos) (rOp gIxT ra rb) := PE.imp (pe_ix (xd_ixT hu) ha hb hs) lowOp
/-- d[x], x an int or a text -/
def getK (kvs : List (D × D)) (k : Key) : Option D := (kvs.find? fun p => decide (keyOf p.1 = some k)).map (·.2)
theorem getK_at {K : PySem.W.Frag} {G : Hp} {k : Key} : ∀ {kvs : List (D × D)} {us : List (Key × V)} {e : D}, RepK K G kvs us → getK kvs k = some e → ∃ v, valV us k = some v ∧ Rep K G e v
  | _, _, _, .nil, h => by cases h
  | _, _, e, .cons (d := d) (k := k') ek r t, h => by
    by_cases hk : k' = k
    · subst hk
      unfold getK at h
      rw [List.find?_cons_of_pos (by simpa using ek)] at h
      cases h
      exact ⟨_, valV_pos rfl, r⟩
    · unfold getK at h
      rw [List.find?_cons_of_neg (by simpa [ek] using hk)] at h
      obtain ⟨v, h1, h2⟩ := getK_at t h
      exact ⟨v, by rw [valV_neg hk]; exact h1, h2⟩
theorem key_kV {K : PySem.W.Frag} {G : Hp} {d : D} {v : V} {k : Key} (r : Rep K G d v) (h : keyOf d = some k) : v = kV k := by
  cases r <;> simp [keyOf] at h <;> subst h <;> rfl
def gIxK : G2 := fun x y m q => ∃ kvs k e, dctOf x m = some (false, kvs) ∧ keyOf y = some k ∧ getK kvs k = some e ∧ q e m
theorem xd_ixK (hu : X.A.units + 64 < cLine) : IxR X (low2 X.K gIxK) := by
  intro value slice pins s σ H x y v u Q I rx ry ⟨dx, dy, m, G, q, hx, hy, hs, ⟨kvs, k, e, ed, ek, eg, hk⟩, hq⟩ hsub
  obtain ⟨p, us, rfl, hp, rk⟩ := dctK_at hs hx ed
  obtain ⟨v', h1, h2⟩ := getK_at rk eg
  have ey := key_kV hy ek
  subst ey
  cases rx
  have g : DGet H p (kV k) (some v') := by
    rw [← h1]
    exact .inl ⟨us, k, hp, rfl, rfl⟩
  exact tail_any (dict_typeIs I g) slot_dict_getitem.lookup (d_getItem (by omega) I g ry fun w' s' I' rw' => ⟨v', H, I', rw', hq.here hs h2 hk⟩) hsub
theorem de_ixK (hu : X.A.units + 64 < cLine) (ha : DE X W a ra) (hb : DE X W b rb) (hs : PlainIx b) : DE X W (.Subscript a b pos) (rOp gIxK ra rb) := PE.imp (pe_ix (xd_ixK hu) ha hb hs) lowOp
/-! ### a new key stored -/
theorem dno_ok {P : Program} {w w' : World} {H : Hp} {h : Heap} {p : Addr} {ep : Nat} {xs : List (NestedKey × Addr × V)} {us : List Value} (hv : Vals (xs.map (·.2.2)) us) (hD : ∃ o es, h.get? p = some o ∧ o.ExactDict ∧ o.data = .dict es ep ∧ es.toList = (xs.zip us).map fun z => (⟨z.1.1.hash w', .ref z.1.2.1, z.2⟩ : DictEntry)) : ObjOk P w H h p (dNo p ep xs) := by
  obtain ⟨o, es, ho, hx, hd, he⟩ := hD
  exact ⟨⟨w', o, es, us, hv, ho, hx, hd, he⟩, ⟨o, ho⟩, fun h1 h2 ⟨w, o, es, us, hv, ho, hx, hd, he⟩ k => ⟨w, o, es, us, hv, k o ho, hx, hd, he⟩⟩
theorem zipT_snoc : ∀ {xs : List (NestedKey × Addr × V)} {us : List Value} {x : NestedKey × Addr × V} {u : Value}, Vals (xs.map (·.2.2)) us → zipT xs us ++ [(x.1, x.2.1, u)] = zipT (xs ++ [x]) (us ++ [u])
  | [], _, x, u, r => by
    cases r
    rfl
  | y :: xs, _, x, u, r => by
    cases r with
    | cons a b => rw [zipT_cons, List.cons_append, List.cons_append, List.cons_append, zipT_cons, zipT_snoc b]
theorem zip_entry (w : World) (P : Program) (xs : List (NestedKey × Addr × V)) (us : List Value) : (zipT xs us).map (entryOfKey (nestedKind P w)) = (xs.zip us).map fun z => (⟨z.1.1.hash w, .ref z.1.2.1, z.2⟩ : DictEntry) := by
  unfold zipT
  rw [List.map_map]
  rfl
theorem getT_none {K : PySem.W.Frag} {G : Hp} {k : NestedKey} : ∀ {kvs : List (D × D)} {xs : List (NestedKey × Addr × V)}, RepT K G kvs xs → getT kvs k = none → k ∉ xs.map (·.1)
  | _, _, .nil, _, h => by cases h
  | _, _, .cons (d := d) (k := k') e hd ra rv t, hn, h => by
    by_cases hk : k' = k
    · subst hk
      unfold getT at hn
      rw [List.find?_cons_of_pos (by simpa using e)] at hn
      cases hn
    · unfold getT at hn
      rw [List.find?_cons_of_neg (by simpa [e] using hk)] at hn
      rw [List.map_cons] at h
      rcases List.mem_cons.mp h with z | z
      · exact hk z.symm
      · exact getT_none t hn z
theorem RepT.snoc {K : PySem.W.Frag} {G : Hp} {d e : D} {k : NestedKey} {a : Addr} {v : V} (h1 : nkOf d = some k) (h2 : k.depth ≤ 8) (h3 : Rep K G d (.ref a)) (h4 : Rep K G e v) : ∀ {kvs : List (D × D)} {xs : List (NestedKey × Addr × V)}, RepT K G kvs xs → RepT K G (kvs ++ [(d, e)]) (xs ++ [(k, a, v)])
  | _, _, .nil => .cons h1 h2 h3 h4 .nil
  | _, _, .cons a b c d t => .cons a b c d (RepT.snoc h1 h2 h3 h4 t)
theorem RepT.length {K : PySem.W.Frag} {G : Hp} : ∀ {kvs : List (D × D)} {xs : List (NestedKey × Addr × V)}, RepT K G kvs xs → kvs.length = xs.length
  | _, _, .nil => rfl
  | _, _, .cons _ _ _ _ t => by rw [List.length_cons, List.length_cons, RepT.length t]
/-- d[k] = v where k isn't there yet, by values -/
def rPutT (K : PySem.W.Frag) : TSet := fun o i v H Q => ∃ p a ds xs kvs k, o = .ref p ∧ i = .ref a ∧ (∃ ep, H p = some (dNo p ep xs)) ∧ RepT K H kvs xs ∧ (xs.map (·.1)).Nodup ∧ xs.length < sizeLine ∧ nkOf (.tup ds) = some k ∧ k.depth ≤ 8 ∧ Rep K H (.tup ds) (.ref a) ∧ getT kvs k = none ∧ ∀ ep, Q (upd H p (dNo p ep (xs ++ [(k, a, v)])))
theorem set_T (hu : X.A.units + 64 < cLine) : PSet X (rPutT X.K) := by
  intro pins s σ H o i v ov iv u Q I ro ri rv h
  obtain ⟨p, a, ds, xs, kvs, k, rfl, rfl, ⟨ep0, hp⟩, rt, nd, hz, ek, hd, ra, hn, q⟩ := h
  cases ro
  cases ri
  obtain ⟨us, hv, hD⟩ := keyed_at I hp rt nd
  have hk' : (nestedKind X.prog X.w).is s.heap k a := ⟨nk_is I ra rfl ek, hd⟩
  have hno : atKey (zipT xs us) k = none := by
    rcases getT_at (k := k) rt hv with ⟨_, h2⟩ | ⟨_, _, _, _, h1, _⟩
    · exact h2
    · rw [hn] at h1
      cases h1
  have hl : (zipT xs us).length ≤ sizeLine := by
    unfold zipT
    rw [List.length_map, List.length_zip]
    omega
  refine wpAny_setItem_heap (hsz := hl) (show X.A.in1.units + 8 < cLine by simp only [Around.in1]; omega) hk' hD fun h' hD' hsb => ?_
  rw [storedH_new hno, zipT_snoc (x := (k, a, v)) hv] at hD'
  obtain ⟨o', es, ep, ho, hx, hdt, he, _, _⟩ := hD'
  have hv' : Vals ((xs ++ [(k, a, v)]).map (·.2.2)) (us ++ [u]) := by
    rw [List.map_append]
    exact hv.append (.cons rv .nil)
  rw [zip_entry] at he
  refine ⟨_, I.write (x := p) (e := p) (o := dNo p ep (xs ++ [(k, a, v)])) (by rw [hp]; exact True.intro) (.inl rfl) (fun b ob hb eb => (hsb.2 b hb).trans eb) ⟨o', ho⟩ (dno_ok hv' ⟨o', es, ho, hx, hdt, he⟩), q ep⟩
end
end DL

/-! DL22: dicts: made, stored into, told their length, comprehensions -/
namespace DL
open PySem PySem.Spec PyProof.Rows L2
section
variable {X : Cx} {W : WX} {pos : Pos} {e : Expr} {re : RE}
/-- d[k] = v, a new key -/
def rSetT (ro ri rv : RE) : RS := fun xd e n m => rv xd n m fun v m1 => ro xd n m1 fun o m2 => ri xd n m2 fun i m3 => ∃ p kvs ds k, o = .ref p ∧ i = .tup ds ∧ m3 p = some (.dct true kvs) ∧ nkOf i = some k ∧ k.depth ≤ 8 ∧ getT kvs k = none ∧ kvs.length < sizeLine ∧ e.nx n (mset m3 p (.dct true (kvs ++ [(i, v)])))
theorem ds_setT (hu : X.A.units + 64 < cLine) {o i : Expr} {ro ri : RE} {pos' : Pos} (ho : DE X W o ro) (hi : DE X W i ri) (he : DE X W e re) (ha : ∀ v, assign (.Subscript o i pos') X.env v = (do
      let ov ← holding [v] (eval o X.env)
      let iv ← holding [v, ov] (eval i X.env)
      standAt pos'
      holding [v, ov, iv] (setItem ov iv v)
      release [v, ov, iv] []) := by intro _; rfl) (hs : swapsWithSole [.Subscript o i pos'] e pos.line X.env = pure false := by rfl) (hw : swappedStores [.Subscript o i pos'] e X.env = pure none := by rfl)
    (h1 : (assignEach [.Subscript o i pos'] X.env).map (·.2) = [assign (.Subscript o i pos') X.env] := by rfl) : DS X W (.Assign [.Subscript o i pos'] e pos) (rSetT ro ri re) :=
  PS.imp (ps_asg he (pg_sub ho hi (set_T hu) ha) hs hw h1) fun D t H ⟨n, m, G, xd, e, hn, hs, hl, hr, L⟩ =>
    ⟨n, m, G, xd, _, hn, hs, hl, hr, fun d m1 v G1 H1 e1 s1 r1 k => ⟨n, m1, G1, xd, _, hn.mono e1, s1, hl.mono e1, k, fun d2 m2 v2 G2 H2 e2 s2 r2 k2 =>
      ⟨n, m2, G2, xd, _, hn.mono (e1.trans e2), s2, hl.mono (e1.trans e2), k2, fun d3 m3 v3 G3 H3 e3 s3 r3 ⟨p, kvs, ds, ky, eo, ei, mp, ek, hd, hn2, hz, k3⟩ => by
        subst eo ei
        cases r2
        obtain ⟨u, h1, r4⟩ := s3.own p _ mp
        cases r4 with
        | dT z l nd rt =>
          cases r3 with
          | tup ea ra =>
            rename_i a vs
            refine ⟨p, a, ds, _, kvs, ky, rfl, rfl, ⟨_, h1⟩, rt.mono s3.sub, nd, by rw [← rt.length]; exact hz, ek, hd, (Rep.tup ea ra).mono s3.sub, hn2, fun ep => ?_⟩
            refine L.nx n _ t G3 _ (e1.trans (e2.trans e3)) (s3.write mp (.dT z ?_ ?_ (rt.snoc ek hd (.tup ea ra) (r1.mono (e2.trans e3))))) (hn.mono (e1.trans (e2.trans e3))) k3
            · rw [List.length_append, ← rt.length]
              exact hz
            · rw [List.map_append, List.nodup_append]
              refine ⟨nd, by simp, fun a ha b hb => ?_⟩
              have hb : b = ky := by simpa using hb
              subst hb
              exact fun z => getT_none rt hn2 (z ▸ ha)⟩⟩⟩
/-- {} -/
def rDct0T : RE := fun _ _ m q => ∀ p, m p = none → q (.ref p) (mset m p (.dct true []))
theorem de_dct0T : DE X W (.Dict [] [] pos) rDct0T := by
  refine ⟨fun pins s σ H Q I ⟨n, m, G, xd, q, hn, hs, hl, hr, hq⟩ => ?_⟩
  have hp : H s.heap.objs.size = none := I.hok.fresh (Nat.le_refl _)
  have ok : ∀ H', ObjOk X.prog X.w H' (s.heap.push { cls := .type "dict", data := .dict #[] }) s.heap.objs.size (dNo s.heap.objs.size 0 []) := fun H' => dno_ok (w' := X.w) (us := []) .nil ⟨_, #[], Heap.get?_push_size _ rfl, ⟨rfl, rfl, rfl⟩, rfl, rfl⟩
  refine wpAny_Dict_empty ⟨.ref s.heap.objs.size, _, I.laid (a := s.heap.objs.size) (o := dNo s.heap.objs.size 0 []) (t' := s.toks) (fun _ _ q => Heap.get?_push_of_some _ q) (Nat.le_refl _) (ok _), rfl, ?_⟩
  exact hq _ _ _ G _ (Same.refl G) (hs.alloc hp (.dT (beq_eq_false_iff_ne.mpr (Ne.symm (Nat.ne_of_lt I.big))) (Nat.zero_le _) List.nodup_nil .nil)) (.ref _) (hr _ (hs.freeM hp))
/-- len(d) -/
def gLenD : List D → Mem → QD → Prop
  | [x], m, q => ∃ t kvs, dctOf x m = some (t, kvs) ∧ q (.int kvs.length) m
  | _, _, _ => False
theorem call_len_no : CallR X (.builtin "len") (fun vs H Q => ∃ (p : Addr) (xs : List (NestedKey × Addr × V)) (kvs : List (D × D)), vs = [.ref p] ∧ (∃ ep, H p = some (dNo p ep xs)) ∧ (p == sysModules) = false ∧ xs.length ≤ sizeLine ∧ (xs.map (·.1)).Nodup ∧ RepT X.K H kvs xs ∧ Q (.int ((kvs.length : Nat) : Int)) H) := by
  intro pins s σ H xs us Q I r h
  obtain ⟨p, xs, kvs, rfl, ⟨ep, hp⟩, z, hl, nd, rt, q⟩ := h
  obtain ⟨u, rfl, rx⟩ := vals1 r
  obtain rfl : u = .ref p := rx
  obtain ⟨ws, hv, hD⟩ := keyed_at I hp rt nd
  have el : (zipT xs ws).length = kvs.length := by
    unfold zipT
    rw [List.length_map, List.length_zip, ← hv.length, List.length_map, rt.length]
    omega
  have hz : sizeLine = 16777216 := sizeLine_eq
  refine call_len_dictH z hD (by rw [el, rt.length]; omega) ⟨.int _, H, I.tok _, ⟨_, rfl⟩, ?_⟩
  rw [el]
  exact q
theorem call_len_dk : CallR X (.builtin "len") (fun vs H Q => ∃ (p : Addr) (us : List (Key × V)), vs = [.ref p] ∧ Rd H p (.dK us) ∧ Q (.int ((us.length : Nat) : Int)) H) := by
  intro pins s σ H xs us Q I r h
  obtain ⟨p, kvs, rfl, hp, q⟩ := h
  obtain ⟨u, rfl, rx⟩ := vals1 r
  obtain rfl : u = .ref p := rx
  exact d_len I hp fun t s' I' => ⟨.int _, H, I', ⟨_, rfl⟩, q⟩
theorem cd_lenD : CallR X (.builtin "len") (lowC X.K gLenD) := crN (CallR.or call_len_no call_len_dk) fun H G m ds vs q Q hr hs hg hq => by
  unfold gLenD at hg
  split at hg
  · obtain ⟨t, kvs, e, k⟩ := hg
    cases hr with
    | cons h r =>
      cases r
      cases t with
      | true =>
        obtain ⟨p, xs, rfl, hp, z, l, nd, rt⟩ := dctT_at hs h e
        exact .inl ⟨p, xs, kvs, rfl, hp, z, l, nd, rt.mono hs.sub, hq.here hs (.int _) k⟩
      | false =>
        obtain ⟨p, us, rfl, hp, rk⟩ := dctK_at hs h e
        exact .inr ⟨p, us, rfl, hp, by rw [← repK_len rk]; exact hq.here hs (.int _) k⟩
  · exact False.elim hg
/-! ### {k: v for ..} -/
theorem getK_none {K : PySem.W.Frag} {G : Hp} {k : Key} : ∀ {kvs : List (D × D)} {us : List (Key × V)}, RepK K G kvs us → getK kvs k = none → valV us k = none
  | _, _, .nil, _ => rfl
  | _, _, .cons (d := d) (k := k') ek r t, h => by
    by_cases hk : k' = k
    · subst hk
      unfold getK at h
      rw [List.find?_cons_of_pos (by simpa using ek)] at h
      cases h
    · unfold getK at h
      rw [List.find?_cons_of_neg (by simpa [ek] using hk)] at h
      rw [valV_neg hk]
      exact getK_none t h
theorem RepK.snoc {K : PySem.W.Frag} {G : Hp} {d e : D} {k : Key} {v : V} (h1 : keyOf d = some k) (h4 : Rep K G e v) : ∀ {kvs : List (D × D)} {us : List (Key × V)}, RepK K G kvs us → RepK K G (kvs ++ [(d, e)]) (us ++ [(k, v)])
  | _, _, .nil => .cons h1 h4 .nil
  | _, _, .cons a b t => .cons a b (RepK.snoc h1 h4 t)
def dcD (T : Tgt) (tt : RT) (tk tv : RE) (n : Nv) (P : Addr) (k : Mem → Prop) : List D → Mem → Prop
  | [], m => k m
  | x :: xs, m => setT T x n fun n2 => tt xd0 n2 m fun b m1 => if b = true then tk xd0 n2 m1 fun y m2 => tv xd0 n2 m2 fun z m3 => ∃ acc ky, m3 P = some (.dct false acc) ∧ keyOf y = some ky ∧ getK acc ky = none ∧ acc.length < sizeLine ∧ dcD T tt tk tv n P k xs (mset m3 P (.dct false (acc ++ [(y, z)]))) else dcD T tt tk tv n P k xs m1
/-- .. it won't change -/
def rDc (ri : RI) (T : Tgt) (tt : RT) (tk tv : RE) (vs : List Nat) : RE := fun xd n m q => ri xd n m fun ds m1 => ∀ P, m1 P = none → dcD T tt tk tv (wipeN n vs) P (fun m2 => ∃ acc, m2 P = some (.dct false acc) ∧ q (.dct false acc) (mdel m2 P)) ds (mset m1 P (.dct false []))
theorem dc_low {ri : RI} {T : Tgt} {tt : RT} {tk tv : RE} {vs : List Nat} {kk : Addr → Mem → Prop} {Q : VK} {t : L2.St} {H : Hp} (hw : T.within vs = true) {n : Nv} {m : Mem} {G : Hp} {xd : XD} (hn : RepN X.K G n t) (hs : Sep X.K G m H) (hl : LinkX X.K W G xd)
    (hr : ri xd n m fun ds m1 => ∀ P, m1 P = none → dcD T tt tk tv (wipeN n vs) P (kk P) ds (mset m1 P (.dct false [])))
    (hq : ∀ P m2 G2 H2, Same G G2 → Sep X.K G2 m2 H2 → kk P m2 → Q (.ref P) H2) :
    tDc (lowI X.K W ri) (gT X.K T) (lowT X.K W0 tt) (lowE X.K W0 tk) (lowE X.K W0 tv) vs t H Q := by
  refine ⟨n, m, G, xd, _, hn, hs, hl, hr, fun ds m1 G1 H1 J e1 s1 S k P hP => ?_⟩
  refine ⟨fun i z H => z = ds.length - i ∧ i ≤ ds.length ∧ ∃ m G', Same G1 G' ∧ Sep X.K G' m H ∧ dcD T tt tk tv (wipeN n vs) P (kk P) (ds.drop i) m, ⟨ds.length, by simp, Nat.zero_le _, _, G1, Same.refl _, s1.alloc hP (.dK .nil), k P (s1.freeM hP)⟩, ?_⟩
  rintro i z H2 ⟨rfl, hi, m2, G2, e2, s2, k2⟩
  by_cases hlt : i < ds.length
  · refine .inr ⟨S.go i H2 m2 G2 e2 s2 hlt, fun H' => ∃ m G', Same G1 G' ∧ Sep X.K G' m H' ∧ dcD T tt tk tv (wipeN n vs) P (kk P) (ds.drop (i + 1)) m, fun H' h => ⟨ds.length - (i + 1), by omega, rfl, hlt, h⟩, fun x H' y => ?_⟩
    obtain ⟨G3, d, ed, e3, s3, r3⟩ := S.yld i x H2 H' m2 G2 e2 s2 hlt y
    rw [List.drop_eq_getElem_cons hlt] at k2
    have ed' : ds[i] = d := by
      rw [List.getElem?_eq_getElem hlt] at ed
      exact Option.some.inj ed
    rw [ed', dcD] at k2
    have e13 := e1.trans (e2.trans e3)
    refine setT_okW s3 r3 (wipe_rep (hn.mono e13) vs) k2 hw fun n' t' rn ew q => ⟨by rw [ew, wipe_wipe], ?_⟩
    refine ⟨n', m2, G3, xd0, _, rn, s3, link0, q, fun b m4 G4 H4 e4 s4 q4 => ?_⟩
    cases b with
    | true =>
      refine ⟨n', m4, G4, xd0, _, rn.mono e4, s4, link0, q4, fun dy m5 v G5 H5 e5 s5 r5 q5 => ?_⟩
      refine ⟨n', m5, G5, xd0, _, rn.mono (e4.trans e5), s5, link0, q5, fun dz m6 v6 G6 H6 e6 s6 r6 ⟨acc, ky, ma, ek, hno, hz, q6⟩ => ?_⟩
      obtain ⟨u, h1, ro⟩ := s6.own P _ ma
      cases ro with
      | dK rk =>
        refine ⟨_, ky, key_kV r5 ek, h1, by rw [← repK_len rk]; exact hz, ?_⟩
        rw [putK_new _ (getK_none rk hno)]
        exact ⟨_, G6, e2.trans (e3.trans (e4.trans (e5.trans e6))), s6.write ma (.dK (rk.snoc ek r6)), q6⟩
    | false => exact ⟨m4, G4, e2.trans (e3.trans e4), s4, q4⟩
  · have e : i = ds.length := by omega
    subst e
    refine .inl ⟨S.stop H2 m2 G2 e2 s2, ?_⟩
    rw [List.drop_length, dcD] at k2
    exact hq P m2 G2 H2 (e1.trans e2) s2 k2
theorem frz_endD {K : PySem.W.Frag} {G : Hp} {q : QD} {Q : VK} (hq : ∀ d m' v G' H', Same G G' → Sep K G' m' H' → Rep K G' d v → q d m' → Q v H') : ∀ P m2 G2 H2, Same G G2 → Sep K G2 m2 H2 → (∃ acc, m2 P = some (.dct false acc) ∧ q (.dct false acc) (mdel m2 P)) → ∃ ps : List Addr, ps.Nodup ∧ (∀ p ∈ ps, ∃ us, H2 p = some (.dK us)) ∧ ∀ H3, LkD H2 H3 ps → Q (.ref P) H3 := fun P m2 G2 H2 e2 s2 ⟨acc, ma, k⟩ => by
  obtain ⟨u, h1, ro⟩ := s2.own P _ ma
  cases ro with
  | dK rk =>
    refine ⟨[P], by simp, fun q hq => by rw [List.mem_singleton.mp hq]; exact ⟨_, h1⟩, fun H3 lk => ?_⟩
    obtain ⟨G3, e3, s3, h3⟩ := s2.locks (ps := [P]) (fun q hq => ⟨hq, (by rw [List.mem_singleton.mp hq]; exact ⟨_, ma⟩)⟩) lk
    obtain ⟨od, us, a, c⟩ := lk.1 P List.mem_cons_self
    rw [h1] at a
    cases a
    rw [mdels_one'] at s3
    exact hq _ _ _ _ H3 (e2.trans e3) s3 (.dK ((h3 P List.mem_cons_self (by rw [ma]; simp)).trans c) (rk.mono e3)) k
theorem de_dc {kx vx tg iter : Expr} {ifs : List Expr} {scope : Scope} {own : List (Str × Nat)} {ri : RI} {T : Tgt} {tt : RT} {tk tv : RE} {vs : List Nat} (hc : X.calm = true) (hN : X.N.Nodup) (hi : DI X W tg iter ri) (ok : BlkOk X.N X.env.scope scope own) (hv : own.map (·.2) = vs) (hw : T.within vs = true)
    (hg : ∀ (s : Shared) (H : Hp) (C : Addr) (cl : List (Str × Addr)) (fp : List Addr), PG (X.blk s H scope (compEnvC scope cl C X.env) fp) tg (gT X.K T)) (ht : ∀ (s : Shared) (H : Hp) (C : Addr) (cl : List (Str × Addr)) (fp : List Addr), DTs (X.blk s H scope (compEnvC scope cl C X.env) fp) W0 ifs tt)
    (hk : ∀ (s : Shared) (H : Hp) (C : Addr) (cl : List (Str × Addr)) (fp : List Addr), DE (X.blk s H scope (compEnvC scope cl C X.env) fp) W0 kx tk) (he : ∀ (s : Shared) (H : Hp) (C : Addr) (cl : List (Str × Addr)) (fp : List Addr), DE (X.blk s H scope (compEnvC scope cl C X.env) fp) W0 vx tv) (hs : ∀ x, foldedSetIterable iter X.env x = pure x := by intro _; rfl) :
    DE X W (.DictComp kx vx [⟨tg, iter, ifs, 0⟩] scope pos) (rDc ri T tt tk tv vs) := by
  subst hv
  exact PE.imp (pe_lk (pe_dc hc hN hi ok hg ht hk he hs)) fun t H Q ⟨n, m, G, xd, q, hn, hs, hl, hr, hq⟩ => dc_low hw hn hs hl hr (frz_endD hq)
end
end DL

/-! DL23: max(list), sorted(list) -/
namespace DL
open PySem PySem.Spec PyProof.Rows L2
section
variable {X : Cx} {W : WX} {pos : Pos} {e : Expr} {re : RE}
/-- max(xs) of a list of ints -/
def intsD (ds : List D) : Option (List Int) := ds.mapM fun d => match d with
  | .int i => some i
  | _ => none
theorem ints_rep {K : PySem.W.Frag} {G : Hp} : ∀ {ds : List D} {vs : List V} {ns : List Int}, Reps K G ds vs → ds = ns.map D.int → vs = ns.map V.int
  | _, _, [], .nil, _ => rfl
  | _, _, n :: ns, .cons h r, e => by
    rw [List.map_cons] at e
    injection e with e1 e2
    subst e1
    cases h
    rw [ints_rep r e2]
    rfl
  | _, _, n :: ns, .nil, e => by cases e
  | _, _, [], .cons _ _, e => by cases e
def gMaxL : List D → Mem → QD → Prop
  | [x], m, q => ∃ ns : List Int, lstOf x m = some (ns.map D.int) ∧ 0 < ns.length ∧ ∀ k, k ∈ ns → (∀ y, y ∈ ns → y ≤ k) → q (.int k) m
  | _, _, _ => False
theorem cd_maxL (hc : X.calm = true) : CallR X (.builtin "max") (lowC X.K gMaxL) := crN (cr_max hc) fun H G m ds vs q Q hr hs hg hq => by
  unfold gMaxL at hg
  split at hg
  · obtain ⟨ns, e, h0, k⟩ := hg
    cases hr with
    | cons h r =>
      cases r
      obtain ⟨p, vs, rfl, hp, ra⟩ := lst_at hs h e
      have ev := ints_rep ra rfl
      subst ev
      exact ⟨p, ns, rfl, SqL.of hp, h0, fun n h1 h2 => hq.here hs (.int _) (k n h1 h2)⟩
  · exact False.elim hg
/-! ### sorted(xs), xs alike -/
mutual
theorem rep_reads {pins : List (Addr × Obj)} {σ : L2.St} {H : Hp} {s : Shared} (I : Inv X pins σ H s) : ∀ {d : D} {x : V} {u : Value} {n : Nat}, Rep X.K H d x → RelV x u → fl n d = true → ∃ as, Reads s.heap u (toP d) as
  | _, _, _, _, .non, r, h => by
    cases r
    exact ⟨_, .none⟩
  | _, _, _, _, .bl b, r, h => by
    cases r
    exact ⟨_, .bool b⟩
  | _, _, _, _, .int i, r, h => by
    obtain ⟨t, rfl⟩ := r
    exact ⟨_, .int i t⟩
  | _, _, _, _, .str cs, r, h => by
    obtain ⟨t, rfl⟩ := r
    exact ⟨_, .str _ t⟩
  | _, _, _, n, .tup e rs, r, h => by
    cases r
    obtain ⟨its, rv, ⟨o, e2, e3, k, e4⟩, _⟩ := I.tuple (SqT.of e)
    cases n with
    | zero => simp [fl] at h
    | succ n =>
      obtain ⟨as, ra⟩ := reps_reads I rs (by simpa using rv) (by simpa [fl] using h)
      exact ⟨as, .tuple e2 e3 e4 ra⟩
  | _, _, _, n, .lst e rs, r, h => by
    cases r
    obtain ⟨its, rv, hl, _⟩ := I.list (SqL.of e)
    obtain ⟨o, e2, e3, k, e4⟩ := hl.isList
    cases n with
    | zero => simp [fl] at h
    | succ n =>
      obtain ⟨as, ra⟩ := reps_reads I rs (by simpa using rv) (by simpa [fl] using h)
      exact ⟨_, .list e2 e3 e4 ra⟩
  | _, _, _, n, .ref _, _, h => by cases n <;> simp [fl] at h
  | _, _, _, n, .ty _, _, h => by cases n <;> simp [fl] at h
  | _, _, _, n, .scr _, _, h => by cases n <;> simp [fl] at h
  | _, _, _, n, .ins _ _ _, _, h => by cases n <;> simp [fl] at h
  | _, _, _, n, .exc _ _ _, _, h => by cases n <;> simp [fl] at h
  | _, _, _, n, .exc0 _, _, h => by cases n <;> simp [fl] at h
  | _, _, _, n, .exv _ _ _ _, _, h => by cases n <;> simp [fl] at h
  | _, _, _, n, .exv0 _ _, _, h => by cases n <;> simp [fl] at h
  | _, _, _, n, .dK _ _, _, h => by cases n <;> simp [fl] at h
  | _, _, _, n, .dT _ _ _ _ _, _, h => by cases n <;> simp [fl] at h
theorem reps_reads {pins : List (Addr × Obj)} {σ : L2.St} {H : Hp} {s : Shared} (I : Inv X pins σ H s) : ∀ {ds : List D} {xs : List V} {us : List Value} {n : Nat}, Reps X.K H ds xs → Vals xs us → fls n ds = true → ∃ as, ReadsAll s.heap us (toPs ds) as
  | _, _, _, _, .nil, r, h => by
    cases r
    exact ⟨_, .nil⟩
  | _, _, _, n, .cons (d := d) (ds := ds) a b, r, h => by
    have h : fl n d = true ∧ fls n ds = true := by simpa [fls] using h
    cases r with
    | cons r1 r2 =>
      obtain ⟨as, h1⟩ := rep_reads I a r1 h.1
      obtain ⟨bs, h2⟩ := reps_reads I b r2 h.2
      exact ⟨_, .cons h1 h2⟩
end
theorem each_reps {pins : List (Addr × Obj)} {σ : L2.St} {G H : Hp} {m : Mem} {s : Shared} (I : Inv X pins σ H s) (hs : Sep X.K G m H) : ∀ {ds : List D} {xs : List V} {us : List Value} {n : Nat}, Reps X.K G ds xs → Vals xs us → fls n ds = true →
    PySem.W.EachIs (fun v d => ∃ x, Rep X.K G d x ∧ RelV x v) us ds ∧ PySem.W.EachIs (fun v d => ∃ as, Reads s.heap v (toP d) as) us ds
  | _, _, _, _, .nil, r, h => by
    cases r
    exact ⟨.nil, .nil⟩
  | _, _, _, n, .cons (d := d) (ds := ds) a b, r, h => by
    have h : fl n d = true ∧ fls n ds = true := by simpa [fls] using h
    cases r with
    | cons r1 r2 =>
      obtain ⟨h1, h2⟩ := each_reps I hs b r2 h.2
      exact ⟨.cons ⟨_, a, r1⟩ h1, .cons (rep_reads I (a.mono hs.sub) r1 h.1) h2⟩
theorem each_back {K : PySem.W.Frag} {G : Hp} : ∀ {us : List Value} {ds : List D}, PySem.W.EachIs (fun v d => ∃ x, Rep K G d x ∧ RelV x v) us ds → ∃ xs, Reps K G ds xs ∧ Vals xs us
  | _, _, .nil => ⟨[], .nil, .nil⟩
  | _, _, .cons ⟨x, h1, h2⟩ t => by
    obtain ⟨xs, r, v⟩ := each_back t
    exact ⟨x :: xs, .cons h1 r, .cons h2 v⟩
theorem fl_depth {n : Nat} {d : D} (h : fl n d = true) : (toP d).depth ≤ n := (fl_canLay n d h).2
def sortD (ds : List D) : List D := ds.mergeSort (PySem.W.dataLe false toP)
def gSortL : List D → Mem → QD → Prop
  | [x], m, q => ∃ ds, lstOf x m = some ds ∧ fls 50 ds = true ∧ PySem.W.AllAlike (ds.map toP) ∧ PySem.W.Sortable (ds.map toP) ∧ ds.length ≤ sizeLine ∧ q (.lst (sortD ds)) m
  | _, _, _ => False
def gSortLO : List D → Mem → QD → Prop
  | [x], m, q => ∃ ds, lstOf x m = some ds ∧ fls 50 ds = true ∧ PySem.W.AllAlike (ds.map toP) ∧ PySem.W.Sortable (ds.map toP) ∧ ds.length ≤ sizeLine ∧ ∀ p, m p = none → q (.ref p) (mset m p (.lst (sortD ds)))
  | _, _, _ => False
theorem sortD_len (ds : List D) : (sortD ds).length = ds.length := by
  unfold sortD
  rw [List.length_mergeSort]
theorem sort_go (hu : X.A.units + 64 < cLine) {pins : List (Addr × Obj)} {σ : L2.St} {G H : Hp} {m : Mem} {s : Shared} {x : D} {v : V} {u : Value} {ds : List D} {Q : VK} (I : Inv X pins σ H s) (hs : Sep X.K G m H) (h : Rep X.K G x v) (rx : RelV v u) (e : lstOf x m = some ds) (f : fls 50 ds = true) (ha : PySem.W.AllAlike (ds.map toP)) (hk : PySem.W.Sortable (ds.map toP)) (hl : ds.length ≤ sizeLine)
    (q : ∀ p zs, H p = none → Reps X.K G (sortD ds) zs → Q (.ref p) (upd H p (.lst zs))) : wpAny (model X.prog X.w) X.A (call (.builtin "sorted") [u]) (EP X pins σ Q) X.xe s := by
  obtain ⟨p, vs, rfl, hp, ra⟩ := lst_at hs h e
  cases rx
  obtain ⟨its, rv, hls, _⟩ := I.list (SqL.of hp)
  obtain ⟨h1, h2⟩ := each_reps I hs ra rv f
  refine PySem.W.sorted_data hls.isList h1 h2 ha hk hl (fun b hb => ?_) fun out ho eo => ?_
  · have := fl_depth (fls_iff.mp f b hb)
    omega
  · obtain ⟨zs, rz, vz⟩ := each_back eo
    obtain ⟨ep, he'⟩ := PyProof.Rows.sortedAll_at s.heap its out.toArray
    have hlen : zs.length ≤ sizeLine := by
      rw [vz.length, ho]
      exact hl
    exact ⟨.ref _, upd H (s.heap.objs.size + 1) (.lst zs), I.laid (t' := s.toks) (fun _ _ => PyProof.Rows.sortedAll_old) (Nat.le_succ _) ⟨hlen, out, ep, vz, he'⟩, rfl, q _ _ (I.hok.fresh (Nat.le_succ _)) rz⟩
theorem cd_sortL (hu : X.A.units + 64 < cLine) : CallR X (.builtin "sorted") (lowC X.K gSortL) := by
  intro pins s σ H xs us Q I r ⟨ds, m, G, q, hr, hs, hg, hq⟩
  unfold gSortL at hg
  split at hg
  · obtain ⟨es, e, f, ha, hk, hl, k⟩ := hg
    cases hr with
    | cons h t =>
      cases t
      cases r with
      | cons r1 r2 =>
        cases r2
        refine sort_go hu I hs h r1 e f ha hk hl fun p zs hp rz => ?_
        obtain ⟨s2, e2⟩ := hs.laid hp (.lst zs)
        exact hq _ m _ _ _ e2 s2 (.lst upd_same (rz.mono e2)) k
  · exact False.elim hg
theorem cd_sortLO (hu : X.A.units + 64 < cLine) : CallR X (.builtin "sorted") (lowC X.K gSortLO) := by
  intro pins s σ H xs us Q I r ⟨ds, m, G, q, hr, hs, hg, hq⟩
  unfold gSortLO at hg
  split at hg
  · obtain ⟨es, e, f, ha, hk, hl, k⟩ := hg
    cases hr with
    | cons h t =>
      cases t
      cases r with
      | cons r1 r2 =>
        cases r2
        refine sort_go hu I hs h r1 e f ha hk hl fun p zs hp rz => ?_
        exact hq _ _ _ G _ (Same.refl G) (hs.alloc hp (.lst rz)) (.ref p) (k p (hs.freeM hp))
  · exact False.elim hg
end
end DL

/-! DL24: {k: v} with a tuple as its key -/
namespace DL
open PySem PySem.Spec PyProof.Rows L2
section
variable {X : Cx} {W : WX} {pos : Pos}
theorem disp_one {A : Around} {E : Value → Shared → Prop} {s : Shared} {env : Env} {k v : Expr} {Q : Value → Shared → Prop} (hu : A.units + 8 < cLine)
    (h : wpAny (model X.prog X.w) A (evalPairs [(eval k env, do let x ← eval v env; standAt pos; pure x)]) (fun vs s₁ => ∃ ps, CarriesH (nestedKind X.prog X.w) s₁.heap vs ps ∧ s₁.heap.DictOfH (nestedKind X.prog X.w) s.heap.objs.size [] ∧
      ∀ h' tk, h'.DictOfH (nestedKind X.prog X.w) s.heap.objs.size (storedAllH [] ps) → Heap.SameBut s.heap.objs.size s₁.heap h' → Q (.ref s.heap.objs.size) { s₁ with heap := h', toks := tk }) E { s with heap := s.heap.push { cls := .type "dict", data := .dict #[] } }) :
    wpAny (model X.prog X.w) A (eval (.Dict [some k] [v] pos) env) Q E s := by
  rw [arm_eval_Dict]
  have hsh : (evalEachOpt [some k] env).zip ((evalEach [v] env).map fun (v : Sem Value) => (do let x ← v; standAt pos; pure x : Sem Value)) = ([(eval k env, (do let x ← eval v env; standAt pos; pure x : Sem Value))] : List (Sem Value × Sem Value)).map fun p => (some p.1, p.2) := rfl
  rw [hsh, dictDisplay_pairs _ (by simp) (by simp)]
  refine wpAny_bind (wpAny_standAt (wpAny_bind ?_))
  exact wpAny_subDictH (knd := nestedKind X.prog X.w) (Q := fun d s' => wpAny (model X.prog X.w) A (pure (Value.ref d)) Q E s') hu (by simp) (wpAny_mono h (fun vs s₁ ⟨ps, hc, hm, hq⟩ => ⟨ps, hc, hm, fun h' tk a b => wpAny_pure (hq h' tk a b)⟩) fun _ _ e => e)
def rDct1T (rk rv : RE) : RE := fun xd n m q => ∀ p, m p = none → rk xd n (mset m p (.dct true [])) fun y m1 => rv xd n m1 fun z m2 => ∃ ds ky, y = .tup ds ∧ nkOf y = some ky ∧ ky.depth ≤ 8 ∧ m2 p = some (.dct true []) ∧ q (.ref p) (mset m2 p (.dct true [(y, z)]))
theorem de_dct1T (hu : X.A.units + 64 < cLine) {k v : Expr} {rk rv : RE} (hk : DE X W k rk) (hv : DE X W v rv) : DE X W (.Dict [some k] [v] pos) (rDct1T rk rv) := by
  refine ⟨fun pins s σ H Q I ⟨n, m, G, xd, q, hn, hs, hl, hr, hq⟩ => ?_⟩
  have hp : H s.heap.objs.size = none := I.hok.fresh (Nat.le_refl _)
  have ok : ∀ H', ObjOk X.prog X.w H' (s.heap.push { cls := .type "dict", data := .dict #[] }) s.heap.objs.size (dNo s.heap.objs.size 0 []) := fun H' => dno_ok (w' := X.w) (us := []) .nil ⟨_, #[], Heap.get?_push_size _ rfl, ⟨rfl, rfl, rfl⟩, rfl, rfl⟩
  have I1 := I.laid (a := s.heap.objs.size) (o := dNo s.heap.objs.size 0 []) (t' := s.toks) (fun _ _ q => Heap.get?_push_of_some { cls := .type "dict", data := .dict #[] } q) (Nat.le_refl _) (ok _)
  have big : (s.heap.objs.size == sysModules) = false := beq_eq_false_iff_ne.mpr (Ne.symm (Nat.ne_of_lt I.big))
  have sA := hs.alloc hp (RepO.dT (ep := 0) (xs := []) big (Nat.zero_le _) List.nodup_nil (RepT.nil (K := X.K) (H := G)))
  generalize hpe : s.heap.objs.size = p at *
  refine disp_one (X := X) (by omega) ?_
  rw [hpe]
  refine evalPairs_cons (thn (hk.run pins _ σ _ (fun y H1 => ∃ dy m1 G1, Same G G1 ∧ Sep X.K G1 m1 H1 ∧ Rep X.K G1 dy y ∧ rv xd n m1 fun z m2 => ∃ ds ky, dy = .tup ds ∧ nkOf dy = some ky ∧ ky.depth ≤ 8 ∧ m2 p = some (.dct true []) ∧ q (.ref p) (mset m2 p (.dct true [(dy, z)]))) I1
    ⟨n, _, G, xd, _, hn, sA, hl, hr p (hs.freeM hp), fun dy m1 y G1 H1 e1 s1 r1 k1 => ⟨dy, m1, G1, e1, s1, r1, k1⟩⟩) fun u s1 ⟨y, H1, I2, ry, dy, m1, G1, e1, sp1, r1, k1⟩ => ?_)
  refine wpAny_bind (thn (hv.run pins _ σ _ (fun z H2 => ∃ dz m2 G2, Same G1 G2 ∧ Sep X.K G2 m2 H2 ∧ Rep X.K G2 dz z ∧ ∃ ds ky, dy = .tup ds ∧ nkOf dy = some ky ∧ ky.depth ≤ 8 ∧ m2 p = some (.dct true []) ∧ q (.ref p) (mset m2 p (.dct true [(dy, dz)]))) I2
    ⟨n, m1, G1, xd, _, hn.mono e1, sp1, hl.mono e1, k1, fun dz m2 z G2 H2 e2 s2 r2 k2 => ⟨dz, m2, G2, e2, s2, r2, k2⟩⟩) fun w2 s2 ⟨z, H2, I3, rz, dz, m2, G2, e2, sp2, r2, ds, ky, ed, ek, hd, mp, k2⟩ => ?_)
  subst ed
  refine wpAny_bind (wpAny_standAt (wpAny_pure (evalPairs_nil ?_)))
  have r1' := r1.mono e2
  cases r1' with
  | tup ea ra =>
    rename_i a vs
    cases ry
    have hkey : (nestedKind X.prog X.w).is s2.heap ky a := ⟨nk_is I3 ((Rep.tup ea ra).mono sp2.sub) rfl ek, hd⟩
    obtain ⟨uu, h1, ro⟩ := sp2.own p _ mp
    cases ro with
    | dT zz ll nd rt =>
      cases rt
      obtain ⟨us0, hv0, hD0⟩ := keyed_at I3 h1 (RepT.nil (K := X.K) (H := H2)) List.nodup_nil
      cases hv0
      refine ⟨[(ky, a, w2)], ⟨rfl, rfl, hkey, True.intro⟩, hD0, fun h' tk hD' hsb => ?_⟩
      have hD' : h'.DictOfH (nestedKind X.prog X.w) p [(ky, a, w2)] := hD'
      obtain ⟨o', es, ep, ho, hx, hdt, he, _, _⟩ := hD'
      have hv' : Vals (([(ky, a, z)] : List (NestedKey × Addr × V)).map (·.2.2)) [w2] := .cons rz .nil
      refine ⟨.ref p, _, I3.write (t' := tk) (x := p) (e := p) (o := dNo p ep [(ky, a, z)]) (by rw [h1]; exact True.intro) (.inl rfl) (fun b ob hb eb => (hsb.2 b hb).trans eb) ⟨o', ho⟩ (dno_ok (w' := X.w) hv' ⟨o', es, ho, hx, hdt, he⟩), rfl, ?_⟩
      exact hq _ _ _ G2 _ (e1.trans e2) (sp2.write mp (.dT big (by rw [sizeLine_eq, List.length_cons, List.length_nil]; decide) (by simp) (.cons ek hd (.tup ea ra) r2 .nil))) (.ref p) k2
end
end DL

/-! DL25: len(o) and o(..) of own instances -/
namespace DL
open PySem PySem.Spec PyProof.Rows L2
section
variable {X : Cx} {W : WX} {pos : Pos}
theorem len_obj {A : Around} {E : Value → Shared → Prop} {s : Shared} {K : PySem.W.Frag} {x C f : Addr} {ox : Obj} {od : Option Obj} {Q : Value → Shared → Prop} (kin : K.In s.heap) (I : PySem.W.InstAt s.heap x ox C od) (hs : PySem.W.findIn K (.ref C) "__len__" = some (some (.ref f))) (hf : PySem.W.isFn K (.ref f) = true)
    (h : wpAny (model X.prog X.w) A.in1 (call (.ref f) [.ref x]) (fun v s' => ∃ n t, v = .int n t ∧ 0 ≤ n ∧ n < 2 ^ 63 ∧ Q (.int n s'.toks) { s' with toks := s'.toks + 1 }) E s) : wpAny (model X.prog X.w) A (call (.builtin "len") [.ref x]) Q E s := by
  refine Calls.call_function_entry kind_len plain_len entry_len (args_len1 _) (show wpAny _ _ (Builtin.«len» _) _ _ _ from ?_)
  unfold Builtin.«len»
  refine wpAny_bind (m := oneArg "len" _) (wpAny_pure (wpAny_bind (m := callSpecial? (.ref x) (Str.ofString "__len__")) (PySem.W.special_fn kin I hs (beq_iff_eq.mp hf) (wpAny_mono h (fun r s' ⟨n, t, e, h0, h1, hq⟩ => ?_) fun _ _ y => y))))
  subst e
  refine wpAny_bind (wpAny_holding (wpAny_pure (wpAny_bind (wpAny_letGo ?_))))
  show wpAny _ _ (if n < 0 then (_ : Sem _) else _) _ _ _
  rw [if_neg (show ¬ n < 0 by omega)]
  show wpAny _ _ (if n ≥ 2 ^ 63 then (_ : Sem _) else _) _ _ _
  rw [if_neg (show ¬ n ≥ 2 ^ 63 by omega)]
  exact wpAny_bind (wpAny_mkInt (wpAny_pure ⟨_, rfl, hq⟩))
theorem call_len_own {k : Nat} {C f : Addr} {fd : FuncData} {sp : Sp} (hf : Meth X.K C "__len__" f) (F : FnOk X.prog X.w X.K X.mg X.base (L2.CX X.prog X.w) k f fd ["self"] sp) (hr : Room (k + 1) X.A) (hb : Binds X.K fd ["self"] []) :
    CallR X (.builtin "len") (fun vs H Q => ∃ a dx fs, vs = [.ref a] ∧ H a = some (.ins C dx fs) ∧ sp [.ref a] H (fun v H2 => ∃ i : Int, v = .int i ∧ 0 ≤ i ∧ i < 2 ^ 63 ∧ Q (.int i) H2) fun _ _ _ => False) := by
  intro pins s σ H xs us Q I r h
  obtain ⟨a, dx, fs, rfl, ea, h⟩ := h
  obtain ⟨u, rfl, rx⟩ := vals1 r
  obtain rfl : u = .ref a := rx
  obtain ⟨mA, O, _, _, _, _⟩ := ins_get I.hok ea
  obtain ⟨od, J, _⟩ := O.look
  refine len_obj I.kIn J hf.at_ hf.fn (wpAny_call (codeAny_mono (F.run X.A.in1 X.stack s H ⟨[.ref a], []⟩ [.ref a] [.ref a] _ _ hr.in1 I.env0.in1 (by simpa using hb s [.ref a] I.kIn rfl) (.cons rfl .nil) h) fun r s' hq => ?_))
  cases r with
  | error er => exact False.elim (pas_nox pins σ H s er s' (I.wish _) hq)
  | ok fl =>
    cases fl with
    | ret u =>
      obtain ⟨v, H', I3, rv, i, rfl, h0, h1, q3⟩ := I.after hq
      obtain ⟨t, rfl⟩ := rv
      exact ⟨i, t, rfl, h0, h1, .int i, H', I3.tok _, ⟨_, rfl⟩, q3⟩
    | _ => exact False.elim hq
/-- len(o) -/
structure LenO (P : Program) (w : World) (K : PySem.W.Frag) (mg : Str → Option Value) (base : Heap) (k : Nat) (nm : Str) (sp : SpD) : Prop where
  ex : ∃ C f fd, ClsI K nm C ∧ Meth K C "__len__" f ∧ FnD P w K mg base k f fd ["self"] sp ∧ Binds K fd ["self"] []
def gLenO (nm : Str) (sp : SpD) : List D → Mem → QD → Prop
  | [x], m, q => ∃ fs, insOf x m = some (nm, fs) ∧ sp [x] m (fun d m2 => ∃ i : Int, d = .int i ∧ 0 ≤ i ∧ i < 2 ^ 63 ∧ q (.int i) m2) fun _ _ _ => False
  | _, _, _ => False
theorem cd_lenO {j k : Nat} {nm : Str} {sp : SpD} (c : LenO X.prog X.w X.K X.mg X.base k nm sp) (hr : Room j X.A) (hk : k + 1 ≤ j) : CallR X (.builtin "len") (lowC X.K (gLenO nm sp)) := by
  obtain ⟨C, f, fd, ci, hm, F, hb⟩ := c.ex
  refine crN (call_len_own hm F (hr.mono hk) hb) fun H G m ds vs q Q hr hs hg hq => ?_
  unfold gLenO at hg
  split at hg
  · obtain ⟨fs, e, k⟩ := hg
    cases hr with
    | cons h r =>
      cases r
      obtain ⟨p, C', dx, gs, rfl, ci', hp, rf⟩ := ins_at hs h e
      have := ci.eq ci'
      subst this
      refine ⟨p, dx, gs, rfl, hp, [_], m, G, _, _, .cons h .nil, hs, k, fun d m' v G' H' e3 s3 r3 ⟨i, ed, h0, h1, k3⟩ => ?_, fun _ _ _ _ _ _ _ _ _ _ z => z⟩
      subst ed
      cases r3
      exact ⟨i, rfl, h0, h1, hq _ m' _ G' H' e3 s3 (.int i) k3⟩
  · exact False.elim hg
end
/-! ### o(..) -/
section
variable {X : Cx} {W : WX} {pos : Pos} {fe e : Expr} {es : List Expr} {rf : RE} {ra : RA}
def tCallS (C : Addr) (sp : Sp) (E : L2.St → XK) (tf : TE) (t : TA) : TE := fun σ H Q => tf σ H fun y H1 => ∃ a, y = V.ref a ∧ t σ H1 fun vs H2 => (∃ dx fs, H2 a = some (.ins C dx fs)) ∧ sp (V.ref a :: vs) H2 Q (E σ)
theorem pe_callS {CX : CXT} {k : Nat} {C g : Addr} {fd : FuncData} {ps : List Str} {sp : Sp} {E : L2.St → XK} {tf : TE} {t : TA} (hf : PE X fe tf) (c : StX.CallO X.K C g) (F : FnOk X.prog X.w X.K X.mg X.base CX k g fd ps sp) (hr : Room k X.A) (hb : Binds X.K fd ps []) (hx : ∀ σ, PassesAt CX X σ (E σ)) (ha : PA X (e :: es) t)
    (ht : eval (.Call fe (e :: es) [] pos) X.env = (do callWith pos (← eval fe X.env) [] (backTo pos (starEach (e :: es) X.env)) (backToKw pos (keywordEach [] X.env))) := by rfl)
    (he : starEach (e :: es) X.env = (false, eval e X.env) :: starEach es X.env := by rfl) (hpl : (backTo pos (starEach es X.env)).any (·.1) = false := by rfl) : PE X (.Call fe (e :: es) [] pos) (tCallS C sp E tf t) := by
  refine ⟨fun pins s σ H Q I h => Call_ (thn (hf.run pins s σ H _ I h) fun u s1 ⟨y, H1, I1, ry, a, ey, q⟩ => ?_) ht⟩
  subst ey
  cases (show u = Value.ref a from ry)
  refine StX.callO_with (thn (ha.run pos pins s1 σ H1 _ I1 q) fun us s2 ⟨vs, H2, I2, r, ⟨dx, fs, hi⟩, q2⟩ => ?_) he hpl
  obtain ⟨mA, O, _⟩ := ins_get I2.hok hi
  obtain ⟨od, J, _⟩ := O.look
  refine ⟨⟨C, _, _, J, rfl⟩, wpAny_call (PySem.W.kco_code I2.kIn J rfl c.at_ c.fn c.fi ?_)⟩
  have rv : Vals (V.ref a :: vs) (Value.ref a :: us) := .cons rfl r
  have hl : (Value.ref a :: us).length = ps.length := rv.length.symm.trans (F.len _ _ _ _ q2)
  refine codeAny_mono (F.run X.A X.stack s2 H2 ⟨.ref a :: us, []⟩ (.ref a :: us) (.ref a :: vs) Q (E σ) hr I2.env0 (by simpa using hb s2 (.ref a :: us) I2.kIn (by simpa using hl)) rv q2) fun r s' hq => ?_
  cases r with
  | error er => exact hx σ pins H2 s2 er s' I2 hq
  | ok fl =>
    cases fl with
    | ret u =>
      obtain ⟨v, H', I3, rv, q3⟩ := I2.after hq
      exact ⟨v, H', I3, rv, q3⟩
    | _ => exact False.elim hq
structure ObjC (P : Program) (w : World) (K : PySem.W.Frag) (mg : Str → Option Value) (base : Heap) (k : Nat) (nm : Str) (ps : List Str) (sp : SpD) : Prop where
  ex : ∃ C f fd, ClsI K nm C ∧ StX.CallO K C f ∧ FnD P w K mg base k f fd ps sp ∧ Binds K fd ps []
def rCallO (nm : Str) (sp : SpD) (rf : RE) (ra : RA) : RE := fun xd n m0 q => rf xd n m0 fun d m1 => ∃ fs, insOf d m1 = some (nm, fs) ∧ ra xd n m1 fun ds m2 => (∃ gs, insOf d m2 = some (nm, gs)) ∧ sp (d :: ds) m2 q fun c fs m' => xd c fs n m'
theorem de_callO {j k : Nat} {nm : Str} {ps : List Str} {sp : SpD} (c : ObjC X.prog X.w X.K X.mg X.base k nm ps sp) (hr : Room j X.A) (hk : k ≤ j) (hx : Pas X W) (hf : DE X W fe rf) (ha : DA X W (e :: es) ra)
    (ht : eval (.Call fe (e :: es) [] pos) X.env = (do callWith pos (← eval fe X.env) [] (backTo pos (starEach (e :: es) X.env)) (backToKw pos (keywordEach [] X.env))) := by rfl)
    (he : starEach (e :: es) X.env = (false, eval e X.env) :: starEach es X.env := by rfl) (hpl : (backTo pos (starEach es X.env)).any (·.1) = false := by rfl) : DE X W (.Call fe (e :: es) [] pos) (rCallO nm sp rf ra) := by
  obtain ⟨C, f, fd, ci, co, F, b⟩ := c.ex
  refine PE.imp (pe_callS (E := WE W) hf co F (hr.mono hk) b hx ha ht he hpl) fun t H Q ⟨n, m, G, xd, q, hn, hs, hl, hr, hq⟩ => ⟨n, m, G, xd, _, hn, hs, hl, hr, fun d m1 v G1 H1 e1 s1 r1 ⟨fs, ei, k⟩ => ?_⟩
  obtain ⟨p, C', dx, gs, rfl, ci', hp, rf⟩ := ins_at s1 r1 ei
  refine ⟨p, rfl, n, m1, G1, xd, _, hn.mono e1, s1, hl.mono e1, k, fun ds m2 vs G2 H2 e2 s2 r2 ⟨⟨gs2, ei2⟩, k2⟩ => ?_⟩
  obtain ⟨p2, C2, dx2, gs3, ep, ci2, hp2, rf2⟩ := ins_at s2 (r1.mono e2) ei2
  cases ep
  have := ci.eq ci2
  subst this
  exact ⟨⟨dx2, gs3, hp2⟩, d :: ds, m2, G2, q, _, .cons (r1.mono e2) r2, s2, k2, fun d m' v G' H' e3 s3 r3 q3 => hq d m' v G' H' (e1.trans (e2.trans e3)) s3 r3 q3, fun nm c fs o m' G' H' e3 s3 r3 q3 => hl nm c fs o n m' t G' H' (e1.trans (e2.trans e3)) s3 (hn.mono (e1.trans (e2.trans e3))) r3 q3⟩
end
end DL

/-! DL26: comprehensions of several clauses: what stands behind a clause is any body that keeps its word -/
namespace DL
open PySem PySem.Spec PyProof.Rows L2
abbrev TB := L2.St → Hp → (Hp → Prop) → Prop
/-- behind a clause's tests: N is reached; the names vs may have changed -/
def PB (B : Cx) (body : Sem Unit) (vs : List Nat) (tb : TB) : Prop :=
  ∀ (pins : List (Addr × Obj)) (s : Shared) (σ : L2.St) (H : Hp) (N : Hp → Prop), Inv B pins σ H s → tb σ H N →
    wpAny (model B.prog B.w) B.A body (fun _ s' => ∃ σ' H', Inv B pins σ' H' s' ∧ wipe σ' vs = wipe σ vs ∧ N H') (fun _ _ => False) s
section
variable {B : Cx} {elt i tg : Expr} {gens : List Comprehension} {ifs : List Expr} {scope : Scope} {pos : Pos} {d : Nat} {D : Addr}
theorem thnX {α : Type} {t : Sem α} {Q Q' : α → Shared → Prop} {E : Value → Shared → Prop} {s : Shared} (hxe : B.xe = fun _ _ => False) (h : wpAny (model B.prog B.w) B.A t Q B.xe s) (hQ : ∀ a s, Q a s → Q' a s) : wpAny (model B.prog B.w) B.A t Q' E s :=
  wpAny_mono h hQ fun _ _ z => by
    rw [hxe] at z
    exact z.elim
def emitB (elt : Expr) (acc : Value) (env : Env) : Sem Unit := (do let _ ← call (.builtin "list.append") [acc, ← eval elt env])
def tEmit (D : Addr) (te : TE) : TB := fun σ H N => te σ H fun y H7 => ∃ acc, H7 D = some (.lst acc) ∧ acc.length < sizeLine ∧ N (upd H7 D (.lst (acc ++ [y])))
theorem pb_emit {te : TE} (hxe : B.xe = fun _ _ => False) (he : PE B elt te) : PB B (emitB elt (.ref D) B.env) [] (tEmit D te) := fun pins s σ H N I h => by
  unfold emitB
  exact wpAny_bind (thnX hxe (he.run pins s σ H _ I h) fun z s1 ⟨y, H1, I1, r1, acc, hD, hz, nx⟩ => wpAny_bind (app_ok I1 hD hz r1 fun s2 I2 => wpAny_pure ⟨σ, _, I2, rfl, nx⟩))
/-- one turn of a clause -/
def turnB (elt : Expr) (gens : List Comprehension) (scope : Scope) (pos : Pos) (d : Nat) (ip : Pos) (tg : Expr) (ifs : List Expr) (it acc : Value) (env : Env) (body : Sem Unit) : Sem PySem.Fin := do
  standAt ip
  match ← pyNext it with
  | none => pure (.done .next)
  | some v =>
    letOwnedTupleGo tg it v
    assign tg env v
    let mut ok := true
    for c in ifs do
      if ok then ok ← isTrue c env (eval c env)
    if ok then body
    again (.compLoop (.ListComp elt gens scope pos) d it acc env)
/-- the start of the next clause -/
def stageB (elt : Expr) (gens : List Comprehension) (scope : Scope) (pos : Pos) (d : Nat) (i : Expr) (acc : Value) (env : Env) : Sem Unit := do
  let x ← eval i env
  standAt i.pos
  let x ← foldedSetIterable i env x
  let _ ← runOwn (.compStart (.ListComp elt gens scope pos) d (← holding [x] (pyIter x)) acc env) env
theorem loopB {prog : Program} {w : World} {A : Around} {R : Result → Shared → Prop} {s : Shared} {it acc : Value} {env : Env} {ip : Pos} {body : Sem Unit} (hT : compTurn (.ListComp elt gens scope pos) d it acc env = turnB elt gens scope pos d ip tg ifs it acc env body) (I : Nat → Shared → Prop)
    (turn : ∀ n s, I n s → wpAny (model prog w) A (pyNext it) (fun r s1 => match r with
      | none => R (.ok .next) s1
      | some v => wpAny (model prog w) A (letOwnedTupleGo tg it v) (fun _ s2 => wpAny (model prog w) A (assign tg env v) (fun _ s3 =>
          wpAny (model prog w) A (forIn ifs true fun c r => if r = true then do let ok ← isTrue c env (eval c env); pure (ForInStep.yield ok) else pure (ForInStep.yield r)) (fun ok s4 =>
            if ok = true then wpAny (model prog w) A body (fun _ s5 => ∃ m, m < n ∧ I m s5) (fun _ _ => False) s4 else ∃ m, m < n ∧ I m s4) (fun _ _ => False) s3) (fun _ _ => False) s2) (fun _ _ => False) s1) (fun _ _ => False) s)
    (n : Nat) (h : I n s) : codeAny (model prog w) A (.compLoop (.ListComp elt gens scope pos) d it acc env) R s := by
  refine codeAny_loop rfl I (fun n s hI => ?_) n h
  show wpAny _ A ((compTurn (.ListComp elt gens scope pos) d it acc env).onRaise (fun x => do noteFrame x env; theTreesLotGoes x)) _ _ s
  refine wpAny_noted ?_
  rw [hT]
  unfold turnB
  refine wpAny_bind (wpAny_standAt (wpAny_bind (thnF (turn n s hI) fun r s1 h1 => ?_)))
  cases r with
  | none => exact wpAny_pure h1
  | some v =>
    refine wpAny_bind (thnF h1 fun _ s2 h2 => wpAny_bind (thnF h2 fun _ s3 h3 => wpAny_bind (thnF h3 fun ok s4 h4 => ?_)))
    cases ok with
    | false => exact wpAny_pure ⟨rfl, h4⟩
    | true => exact wpAny_bind (thnF h4 fun _ s5 h5 => wpAny_pure ⟨rfl, h5⟩)
theorem startB {prog : Program} {w : World} {A : Around} {R : Result → Shared → Prop} {s : Shared} {it acc : Value} {env : Env} (hg : gens[d + 1]? = some ⟨tg, i, ifs, 0⟩) (h0 : codeAny (model prog w) A (.compLoop (.ListComp elt gens scope pos) (d + 1) it acc env) R s)
    (h : wpAny (model prog w) A (pyIter it) (fun it' s' => codeAny (model prog w) A (.compLoop (.ListComp elt gens scope pos) (d + 1) it' acc env) R s') (notedBy (model prog w) A env fun x s' => R (.error x) s') s) :
    codeAny (model prog w) A (.compStart (.ListComp elt gens scope pos) (d + 1) it acc env) R s := by
  refine codeAny_of_tree ?_
  show wpAny _ _ ((compStart (.ListComp elt gens scope pos) (d + 1) it acc env).onRaise (fun x => do noteFrame x env; standAt theWindowsPlace)) _ _ s
  refine wpAny_notedAt ?_
  unfold compStart
  rw [show clausesOf (.ListComp elt gens scope pos) = gens from rfl, hg]
  show wpAny _ _ (ask >>= _) _ _ s
  refine wpAny_bind (wpAny_askSetting (wpAny_ite ?_))
  split
  · exact wpAny_pure ⟨rfl, h0⟩
  · exact wpAny_bind (wpAny_rule (wpAny_bind (wpAny_standAt (wpAny_bind (wpAny_mono h (fun it' s' h' => wpAny_pure ⟨rfl, h'⟩) fun _ _ x => x)))))
/-- a clause within another -/
def tClause (wi : TI) (g : TG) (tt : TT) (tb : TB) (vs : List Nat) : TB := fun σ H N => wi σ H fun J H1 => ∃ V : Nat → Nat → Hp → Prop, (∃ m, V 0 m H1) ∧ ∀ j k H, V j k H →
  (J.stop j H ∧ N H) ∨ (J.go j H ∧ ∃ M : Hp → Prop, (∀ H', M H' → ∃ k', k' < k ∧ V (j + 1) k' H') ∧ ∀ x H', J.yld j H x H' → g x (wipe σ vs) H' fun σ3 H5 => wipe σ3 vs = wipe σ vs ∧ tt σ3 H5 fun b H6 => if b = true then tb σ3 H6 M else M H6)
theorem wipe_in {σ σ' τ : L2.St} {vs ws : List Nat} (h1 : wipe τ vs = wipe σ vs) (h2 : wipe σ' ws = wipe τ ws) (hw : ∀ j ∈ ws, j ∈ vs) : (wipe σ vs).length = σ'.length ∧ ∀ (j : Nat) v, (wipe σ vs)[j]? = some (some v) → σ'[j]? = some (some v) := by
  constructor
  · have l1 := congrArg List.length h1
    have l2 := congrArg List.length h2
    simp only [wipe_length] at l1 l2 ⊢
    omega
  · intro j v e
    rw [← h1] at e
    obtain ⟨e1, e2⟩ := wipe_some e
    have e3 : (wipe τ ws)[j]? = some (some v) := by
      rw [L2.wipe_out fun z => e2 (hw j z)]
      exact e1
    rw [← h2] at e3
    exact (wipe_some e3).1
theorem pb_clause {wi : TI} {g : TG} {tt : TT} {tb : TB} {body : Sem Unit} {vs ws : List Nat} (hc : B.calm = true) (hxe : B.xe = fun _ _ => False) (hT : ∀ it, compTurn (.ListComp elt gens scope pos) (d + 1) it (.ref D) B.env = turnB elt gens scope pos (d + 1) i.pos tg ifs it (.ref D) B.env body)
    (hg0 : gens[d + 1]? = some ⟨tg, i, ifs, 0⟩) (hs : ∀ x, foldedSetIterable i B.env x = pure x) (hi : PI B tg i wi) (hg : PG B tg g) (ht : PTs B ifs tt) (hb : PB B body ws tb) (hin : ∀ j ∈ ws, j ∈ vs) : PB B (stageB elt gens scope pos (d + 1) i (.ref D) B.env) vs (tClause wi g tt tb vs) := fun pins s σ H N I h => by
  unfold stageB
  have hi' := hi.run pins s σ H _ I h
  refine wpAny_bind (thnX hxe hi' fun xv s1 hx => wpAny_bind (wpAny_standAt (wpAny_bind (wpAny_of_eq (hs xv) (wpAny_bind (wpAny_holding (thnX hxe hx fun itv s2 h2 => ?_)))))))
  obtain ⟨it, fp, tn, J, H2, e, I2, T, st2, f2, V, ⟨m0, v0⟩, go⟩ := h2
  subst e
  have hfp : ∀ {H' : Hp}, (∀ b ∈ fp, H' b = none) → ∀ b ∈ fp, FpOk B pins H' b := fun hn b hb => ⟨hn b hb, (f2 b hb).2⟩
  have loop : codeAny (model B.prog B.w) B.A (.compLoop (.ListComp elt gens scope pos) (d + 1) (.ref it) (.ref D) B.env) (fun r s' => match r with
      | .ok _ => ∃ σ' H', Inv B pins σ' H' s' ∧ wipe σ' vs = wipe σ vs ∧ N H'
      | .error _ => False) s2 := by
    refine loopB (hT _) (fun k s' => ∃ j H', Inv B pins (wipe σ vs) H' s' ∧ tn j s'.heap ∧ (∀ b ∈ fp, H' b = none) ∧ V j k H') ?_ m0 ⟨0, H2, I2.weak (wipe_length _ _) (fun j v e => (wipe_some e).1), st2, fun b hb => (f2 b hb).1, v0⟩
    rintro k s3 ⟨j, H3, I3, st3, n3, v3⟩
    rcases go j k H3 v3 with ⟨stop, nx⟩ | ⟨goes, M, hM, step⟩
    · refine thnF (T.done B rfl rfl rfl hc j _ s3 (wipe σ vs) H3 (fun _ _ => False) I3 (hfp n3) st3 stop) fun r s4 ⟨hr, I4⟩ => ?_
      subst hr
      exact ⟨wipe σ vs, H3, I4, wipe_wipe vs, nx⟩
    · refine thnF (T.item B rfl rfl rfl hc j _ s3 (wipe σ vs) H3 (fun _ _ => False) I3 (hfp n3) st3 goes) fun r s4 ⟨u, hr, h4⟩ => ?_
      subst hr
      refine thnF h4 fun _ s5 ⟨x, H5, I5, r5, y5, st5, n5⟩ => ?_
      have I5' := I5.pinned (hfp n5) (T.obj _ _ st5)
      refine thnX hxe (hg.run _ s5 (wipe σ vs) H5 x u _ I5' r5 (step x H5 y5)) fun _ s6 ⟨σ6, H6, I6, w6, q6⟩ => ?_
      refine thnX hxe (ht.run _ s6 σ6 H6 _ I6 q6) fun b s7 ⟨H7, I7, q7⟩ => ?_
      have fin : ∀ {σ' : L2.St} {s' : Shared} {H' : Hp}, Inv B (pins ++ pinsAt fp s5.heap) σ' H' s' → wipe σ' ws = wipe σ6 ws → M H' → ∃ m, m < k ∧ ∃ j H', Inv B pins (wipe σ vs) H' s' ∧ tn j s'.heap ∧ (∀ b ∈ fp, H' b = none) ∧ V j m H' := fun {σ' s' H'} I' hw nx => by
        obtain ⟨k', hk, v'⟩ := hM H' nx
        obtain ⟨l, kp⟩ := wipe_in w6 hw hin
        have pin : ∀ b ∈ fp, ∀ o, s5.heap.get? b = some o → s'.heap.get? b = some o ∧ H' b = none := fun b hb o e => by
          have z := I'.pin (b, o) (List.mem_append_right _ (List.mem_append_right _ (mem_pinsAt hb e)))
          exact ⟨z.1, z.2.1⟩
        refine ⟨k', hk, j + 1, H', I'.unpinned.weak l kp, T.keep _ _ _ st5 fun b hb o e => (pin b hb o e).1, fun b hb => ?_, v'⟩
        obtain ⟨o, e, _⟩ := T.obj _ _ st5 b hb
        exact (pin b hb o e).2
      cases b with
      | false =>
        simp only [Bool.false_eq_true, if_false] at q7 ⊢
        exact fin I7 rfl q7
      | true =>
        simp only [if_true] at q7 ⊢
        exact thnF (hb _ s7 σ6 H7 M I7 q7) fun _ s8 ⟨σ8, H8, I8, w8, n8⟩ => fin I8 w8 n8
  refine wpAny_bind (wpAny_runOwn ?_)
  rw [Around.mark_none]
  refine codeAny_mono (startB hg0 loop (T.self B.A 0 _ _ _ st2 loop)) fun r s' hr => ?_
  cases r with
  | ok f =>
    first
      | exact wpAny_pure hr
      | exact wpAny_bind (wpAny_pure (wpAny_pure hr))
  | error e => exact hr.elim
end
section
variable {X : Cx} {elt iter tg : Expr} {rest : List Comprehension} {ifs : List Expr} {scope : Scope} {own : List (Str × Nat)} {pos : Pos}
/-- [..]: the first clause; tb D: what stands behind it, D the new list -/
def tLcG (wi : TI) (g : TG) (tt : TT) (tb : Addr → TB) (vs : List Nat) : TE := fun σ H Q => wi σ H fun J H1 => ∀ D, H1 D = none → ∃ V : Nat → Nat → Hp → Prop, (∃ m, V 0 m (upd H1 D (.lst []))) ∧ ∀ i m H, V i m H →
  (J.stop i H ∧ Q (.ref D) H) ∨ (J.go i H ∧ ∃ M : Hp → Prop, (∀ H', M H' → ∃ m', m' < m ∧ V (i + 1) m' H') ∧ ∀ x H', J.yld i H x H' → g x (wipe σ vs) H' fun σ2 H2 => wipe σ2 vs = wipe σ vs ∧ tt σ2 H2 fun b H3 => if b = true then tb D σ2 H3 M else M H3)
theorem pe_lcG {wi : TI} {g : TG} {tt : TT} {tb : Addr → TB} {ws : List Nat} {body : Addr → Env → Sem Unit} (hc : X.calm = true) (hN : X.N.Nodup) (hi : PI X tg iter wi) (ok : BlkOk X.N X.env.scope scope own)
    (hT : ∀ D it env, compTurn (.ListComp elt (⟨tg, iter, ifs, 0⟩ :: rest) scope pos) 0 it (.ref D) env = turnB elt (⟨tg, iter, ifs, 0⟩ :: rest) scope pos 0 iter.pos tg ifs it (.ref D) env (body D env))
    (hg : ∀ (s : Shared) (H : Hp) (C : Addr) (cl : List (Str × Addr)) (fp : List Addr), PG (X.blk s H scope (compEnvC scope cl C X.env) fp) tg g) (ht : ∀ (s : Shared) (H : Hp) (C : Addr) (cl : List (Str × Addr)) (fp : List Addr), PTs (X.blk s H scope (compEnvC scope cl C X.env) fp) ifs tt)
    (hb : ∀ (D : Addr) (s : Shared) (H : Hp) (C : Addr) (cl : List (Str × Addr)) (fp : List Addr), PB (X.blk s H scope (compEnvC scope cl C X.env) fp) (body D (compEnvC scope cl C X.env)) ws (tb D)) (hin : ∀ j ∈ ws, j ∈ own.map (·.2))
    (hs : ∀ x, foldedSetIterable iter X.env x = pure x := by intro _; rfl) : PE X (.ListComp elt (⟨tg, iter, ifs, 0⟩ :: rest) scope pos) (tLcG wi g tt tb (own.map (·.2))) := by
  refine ⟨fun pins s σ H Q I h => ?_⟩
  rw [eval_ListComp]
  have hfree : ∀ y ∈ scope.names, y.2 = .free → ∃ c, X.env.cells.lookup y.1 = some c := fun y hy e => (ok.free y hy e).elim (fun k => I.ok.has _ (.inl k)) fun k => I.ok.has _ (.inr k)
  refine wpAny_comprehension_free (use := none) rfl hs (closure_ok hfree) ok.kind (fun y hy e => by rw [ok.uniq y hy, e]) (thn (hi.run pins s σ H _ I h) fun xv s1 hx => thn hx fun itv s2 h2 => ?_)
  obtain ⟨it, fp, tn, J, H2, e, I2, T, st2, f2, q⟩ := h2
  subst e
  refine wpAny_newObj_type (newEnv_comp ?_) (show 0 ≤ sizeLine by decide)
  generalize hD : s2.heap.objs.size = D
  obtain ⟨V, ⟨m0, v0⟩, turn⟩ := q D (I2.hok.fresh (Nat.le_of_eq hD))
  generalize hs3 : ({ s2 with heap := s2.heap.push { cls := .type "list", data := .seq ([] : List Value).toArray } } : Shared) = s3
  have h3 : s3.heap = s2.heap.push { cls := .type "list", data := .seq ([] : List Value).toArray } := by rw [← hs3]
  have I3 : Inv X pins σ (upd H2 D (.lst [])) s3 := by
    rw [← hs3]
    exact I2.laid (t' := s2.toks) (fun b o e => Heap.get?_push_of_some _ e) (Nat.le_of_eq hD) ⟨Nat.zero_le _, [], 0, .nil, by rw [← hD]; exact Heap.get?_push_size _ rfl⟩
  have f3 : ∀ b ∈ fp, FpOk X pins (upd H2 D (.lst [])) b ∧ b < s3.heap.objs.size := fun b hb => by
    obtain ⟨o, eo, _⟩ := T.obj _ _ st2 b hb
    have hlt := Heap.lt_size eo
    refine ⟨⟨?_, (f2 b hb).2⟩, by rw [h3, Heap.size_push]; exact Nat.lt_succ_of_lt hlt⟩
    rw [upd_ne (show b ≠ D by rw [← hD]; exact Nat.ne_of_lt hlt)]
    exact (f2 b hb).1
  have st3 : tn 0 s3.heap := T.keep _ _ _ st2 fun b _ o e => by rw [h3]; exact Heap.get?_push_of_some _ e
  have I4 := block_start I3 ok hN f3
  have pg := hg s3 (upd H2 D (.lst [])) s3.heap.objs.size (cellsFrom (s3.heap.objs.size + 1) scope.names (cloFrom X.env.cells scope.names [])) fp
  have pt := ht s3 (upd H2 D (.lst [])) s3.heap.objs.size (cellsFrom (s3.heap.objs.size + 1) scope.names (cloFrom X.env.cells scope.names [])) fp
  have pb := hb D s3 (upd H2 D (.lst [])) s3.heap.objs.size (cellsFrom (s3.heap.objs.size + 1) scope.names (cloFrom X.env.cells scope.names [])) fp
  show codeAny _ _ (.compStart (.ListComp elt (⟨tg, iter, ifs, 0⟩ :: rest) scope pos) 0 (.ref it) (.ref D) (compEnvC scope (cellsFrom (s3.heap.objs.size + 1) scope.names (cloFrom X.env.cells scope.names [])) s3.heap.objs.size X.env)) (compPost (model X.prog X.w) X.A X.xe none _ (.ref D) s3.heap.objs.size) { s3 with heap := pushCells (s3.heap.push { cls := .type "dict", data := .dict #[] }) scope.names }
  have nfp : ∀ b ∈ fp, (upd H2 D (.lst [])) b = none := fun b hb => (f3 b hb).1.1
  generalize hce : compEnvC scope (cellsFrom (s3.heap.objs.size + 1) scope.names (cloFrom X.env.cells scope.names [])) s3.heap.objs.size X.env = ce at I4 pg pt pb ⊢
  have cL : ce.locals = s3.heap.objs.size := by rw [← hce]; rfl
  generalize hH3 : upd H2 D (.lst []) = H3 at I3 I4 pg pt pb v0 nfp f3
  generalize hs4 : ({ s3 with heap := pushCells (s3.heap.push { cls := .type "dict", data := .dict #[] }) scope.names } : Shared) = s4 at I4 ⊢
  have st4 : tn 0 s4.heap := T.keep _ _ _ st3 fun b _ o e => by rw [← hs4]; exact pushCells_keeps _ _ _ _ (Heap.get?_push_of_some _ e)
  have stat : ∀ {σ' : L2.St} {H' : Hp} {s' : Shared}, Inv (X.blk s3 H3 scope ce fp) [] σ' H' s' → (∀ b ∈ fp, H' b = none) → ∀ b ∈ fp, FpOk (X.blk s3 H3 scope ce fp) [] H' b := fun {σ' H' s'} I' hn b hb =>
    ⟨hn b hb, (I'.ok.exf b hb).1, I'.ok.exfs b hb, .inl hb, fun x c e => (I'.ok.exf b hb).2 x c e, fun p hp => absurd (show p ∈ ([] : List (Addr × Obj)) ++ [] from hp) (by simp)⟩
  have loop : codeAny (model X.prog X.w) X.A (.compLoop (.ListComp elt (⟨tg, iter, ifs, 0⟩ :: rest) scope pos) 0 (.ref it) (.ref D) ce) (compPost (model X.prog X.w) X.A X.xe none (EP X pins σ Q) (.ref D) s3.heap.objs.size) s4 := by
    refine loopB (hT D _ ce) (fun k s' => ∃ j H', Inv (X.blk s3 H3 scope ce fp) [] (wipe σ (own.map (·.2))) H' s' ∧ tn j s'.heap ∧ (∀ b ∈ fp, H' b = none) ∧ V j k H') ?_ m0 ⟨0, H3, I4, st4, nfp, v0⟩
    rintro k s5 ⟨j, H5, I5, st5, n5, v5⟩
    rcases turn j k H5 v5 with ⟨stop, qq⟩ | ⟨go, M, hM, step⟩
    · refine thnF (T.done (X.blk s3 H3 scope ce fp) rfl rfl rfl hc j [] s5 _ H5 (fun _ _ => False) I5 (stat I5 n5) st5 stop) fun r s6 ⟨hr, I6⟩ => ?_
      subst hr
      have I7 : Inv X pins σ H5 s6 := I3.call' (ch := fp) I6.os I6.base I6.hok I6.bare fun b hb => ⟨(f3 b hb).1.2.2.2.1, (f3 b hb).1.2.1, (f3 b hb).1.2.2.2.2.1, (f3 b hb).1.2.2.2.2.2⟩
      have nC : H5 s3.heap.objs.size = none := by
        rw [← cL]
        exact I6.free
      obtain ⟨mm, hn, _⟩ := I6.loc
      have hn : s6.heap.Ns ce.locals mm := hn
      rw [cL] at hn
      obtain ⟨g0, g1, g2, g3, g4, g5⟩ := I3.fpOk (Nat.le_refl _) nC
      exact ⟨mm, hn, fun h'' sb => ⟨.ref D, H5, I7.turned (t' := s6.toks) (fun b o hb e => (sb.2 b hb).trans e) g0 g1 g3 g4 g5, rfl, qq⟩⟩
    · refine thnF (T.item (X.blk s3 H3 scope ce fp) rfl rfl rfl hc j [] s5 _ H5 (fun _ _ => False) I5 (stat I5 n5) st5 go) fun r s6 ⟨u, hr, h6⟩ => ?_
      subst hr
      refine thnF h6 fun _ s7 ⟨x, H7, I7, r7, y7, st7, n7⟩ => ?_
      have I7' := I7.pinned (stat I7 n7) (T.obj _ _ st7)
      refine thnF (pg.run _ s7 _ H7 x u _ I7' r7 (step x H7 y7)) fun _ s8 ⟨σ8, H8, I8, w8, q8⟩ => ?_
      refine thnF (pt.run _ s8 σ8 H8 _ I8 q8) fun b s9 ⟨H9, I9, q9⟩ => ?_
      have fin : ∀ {σ' : L2.St} {s' : Shared} {H' : Hp}, Inv (X.blk s3 H3 scope ce fp) ([] ++ pinsAt fp s7.heap) σ' H' s' → wipe σ' ws = wipe σ8 ws → M H' → ∃ m, m < k ∧ ∃ j H', Inv (X.blk s3 H3 scope ce fp) [] (wipe σ (own.map (·.2))) H' s' ∧ tn j s'.heap ∧ (∀ b ∈ fp, H' b = none) ∧ V j m H' := fun {σ' s' H'} I' hw nx => by
        obtain ⟨k', hk, v'⟩ := hM H' nx
        obtain ⟨l, kp⟩ := wipe_in w8 hw hin
        have pin : ∀ b ∈ fp, ∀ o, s7.heap.get? b = some o → s'.heap.get? b = some o ∧ H' b = none := fun b hb o e => by
          have z := I'.pin (b, o) (List.mem_append_right _ (List.mem_append_right _ (mem_pinsAt hb e)))
          exact ⟨z.1, z.2.1⟩
        refine ⟨k', hk, j + 1, H', (I'.unpinned (pins := [])).weak l kp, T.keep _ _ _ st7 fun b hb o e => (pin b hb o e).1, fun b hb => ?_, v'⟩
        obtain ⟨o, e, _⟩ := T.obj _ _ st7 b hb
        exact (pin b hb o e).2
      cases b with
      | false =>
        simp only [Bool.false_eq_true, if_false] at q9 ⊢
        exact fin I9 rfl q9
      | true =>
        simp only [if_true] at q9 ⊢
        exact thnF (pb _ s9 σ8 H9 M I9 q9) fun _ s10 ⟨σ10, H10, I10, w10, n10⟩ => fin I10 w10 n10
  exact codeAny_compStart_list loop (T.self X.A 0 _ _ _ st4 loop)
end
end DL

/-! DL27: comprehensions of several clauses, over data -/
namespace DL
open PySem PySem.Spec PyProof.Rows L2
abbrev RB := Nv → Mem → (Mem → Prop) → Prop
def lowB (K : PySem.W.Frag) (rb : RB) : TB := fun t H N => ∃ (n : Nv) (m : Mem) (G : Hp) (k : Mem → Prop), RepN K G n t ∧ Sep K G m H ∧ rb n m k ∧ ∀ m' G' H', Same G G' → Sep K G' m' H' → k m' → N H'
def rbEmit (P : Addr) (te : RE) : RB := fun n m k => te xd0 n m fun d m2 => ∃ acc, m2 P = some (.lst acc) ∧ acc.length < sizeLine ∧ k (mset m2 P (.lst (acc ++ [d])))
def goB (T : Tgt) (tt : RT) (rb : RB) (n : Nv) (k : Mem → Prop) : List D → Mem → Prop
  | [], m => k m
  | x :: xs, m => setT T x n fun n2 => tt xd0 n2 m fun b m1 => if b = true then rb n2 m1 (goB T tt rb n k xs) else goB T tt rb n k xs m1
def rbClause (ri : RI) (T : Tgt) (tt : RT) (rb : RB) (vs : List Nat) : RB := fun n m k => ri xd0 n m fun ds m1 => goB T tt rb (wipeN n vs) k ds m1
def rLcG (ri : RI) (T : Tgt) (tt : RT) (rb : Addr → RB) (vs : List Nat) : RE := fun xd n m q => ri xd n m fun ds m1 => ∀ P, m1 P = none → goB T tt (rb P) (wipeN n vs) (fun m2 => ∃ acc, m2 P = some (.lst acc) ∧ q (.lst acc) (mdel m2 P)) ds (mset m1 P (.lst []))
theorem PB.imp {B : Cx} {body : Sem Unit} {vs : List Nat} {t u : TB} (h : PB B body vs t) (i : ∀ σ H N, u σ H N → t σ H N) : PB B body vs u := fun pins s σ H N I q => h pins s σ H N I (i σ H N q)
section
variable {K : PySem.W.Frag}
theorem low_emit {P : Addr} {te : RE} : ∀ σ H N, lowB K (rbEmit P te) σ H N → tEmit P (lowE K W0 te) σ H N := fun σ H N ⟨n, m, G, k, hn, hs, hr, hk⟩ =>
  ⟨n, m, G, xd0, _, hn, hs, link0, hr, fun d m2 v G2 H2 e2 s2 r2 ⟨acc, ma, hz, k2⟩ => by
    obtain ⟨us, h1, r1⟩ := s2.lst ma
    exact ⟨us, h1, by rw [← r1.length]; exact hz, hk _ G2 _ e2 (s2.write ma (.lst (r1.append (.cons r2 .nil)))) k2⟩⟩
/-- the turns of a clause -/
theorem low_turns {J : It} {ds : List D} {T : Tgt} {tt : RT} {rb : RB} {n : Nv} {vs : List Nat} {σ : L2.St} {G : Hp} {k : Mem → Prop} (S : Src K G J ds) (hw : T.within vs = true) (hn : RepN K G n σ) {j : Nat} {H : Hp} {m : Mem} {G2 : Hp} (e2 : Same G G2) (s2 : Sep K G2 m H) (hlt : j < ds.length)
    (h : goB T tt rb (wipeN n vs) k (ds.drop j) m) (x : V) (H' : Hp) (y : J.yld j H x H') {M : Hp → Prop} (hM : ∀ m' G' H', Same G G' → Sep K G' m' H' → goB T tt rb (wipeN n vs) k (ds.drop (j + 1)) m' → M H') :
    gT K T x (wipe σ vs) H' fun σ3 H5 => wipe σ3 vs = wipe σ vs ∧ lowT K W0 tt σ3 H5 fun b H6 => if b = true then lowB K rb σ3 H6 M else M H6 := by
  obtain ⟨G3, d, ed, e3, s3, r3⟩ := S.yld j x H H' m G2 e2 s2 hlt y
  rw [List.drop_eq_getElem_cons hlt] at h
  have ed' : ds[j] = d := by
    rw [List.getElem?_eq_getElem hlt] at ed
    exact Option.some.inj ed
  rw [ed', goB] at h
  have e13 := e2.trans e3
  refine setT_okW s3 r3 (wipe_rep (hn.mono e13) vs) h hw fun n' t' rn ew q => ⟨by rw [ew, wipe_wipe], ?_⟩
  refine ⟨n', m, G3, xd0, _, rn, s3, link0, q, fun b m4 G4 H4 e4 s4 q4 => ?_⟩
  cases b with
  | true => exact ⟨n', m4, G4, _, rn.mono e4, s4, q4, fun m' G' H' e5 s5 k5 => hM m' G' H' (e13.trans (e4.trans e5)) s5 k5⟩
  | false => exact hM m4 G4 H4 (e13.trans e4) s4 q4
theorem low_clause {ri : RI} {T : Tgt} {tt : RT} {rb : RB} {vs : List Nat} (hw : T.within vs = true) : ∀ σ H N, lowB K (rbClause ri T tt rb vs) σ H N → tClause (lowI K W0 ri) (gT K T) (lowT K W0 tt) (lowB K rb) vs σ H N := fun σ H N ⟨n, m, G, k, hn, hs, hr, hk⟩ => by
  refine ⟨n, m, G, xd0, _, hn, hs, link0, hr, fun ds m1 G1 H1 J e1 s1 S k1 => ?_⟩
  refine ⟨fun j z H => z = ds.length - j ∧ j ≤ ds.length ∧ ∃ m G', Same G1 G' ∧ Sep K G' m H ∧ goB T tt rb (wipeN n vs) k (ds.drop j) m, ⟨ds.length, by simp, Nat.zero_le _, m1, G1, Same.refl _, s1, k1⟩, ?_⟩
  rintro j z H2 ⟨rfl, hj, m2, G2, e2, s2, k2⟩
  by_cases hlt : j < ds.length
  · refine .inr ⟨S.go j H2 m2 G2 e2 s2 hlt, fun H' => ∃ m G', Same G1 G' ∧ Sep K G' m H' ∧ goB T tt rb (wipeN n vs) k (ds.drop (j + 1)) m, fun H' h => ⟨ds.length - (j + 1), by omega, rfl, hlt, h⟩, fun x H' y => ?_⟩
    exact low_turns S hw (hn.mono e1) e2 s2 hlt k2 x H' y fun m' G' H' e s k => ⟨m', G', e, s, k⟩
  · have e : j = ds.length := by omega
    subst e
    rw [List.drop_length, goB] at k2
    exact .inl ⟨S.stop H2 m2 G2 e2 s2, hk m2 G2 H2 (e1.trans e2) s2 k2⟩
theorem low_first {W : WX} {ri : RI} {T : Tgt} {tt : RT} {rb : Addr → RB} {vs : List Nat} (hw : T.within vs = true) : ∀ t H Q, lowE K W (rLcG ri T tt rb vs) t H Q → tLcG (lowI K W ri) (gT K T) (lowT K W0 tt) (fun D => lowB K (rb D)) vs t H Q := fun t H Q ⟨n, m, G, xd, q, hn, hs, hl, hr, hq⟩ => by
  refine ⟨n, m, G, xd, _, hn, hs, hl, hr, fun ds m1 G1 H1 J e1 s1 S k P hP => ?_⟩
  refine ⟨fun j z H => z = ds.length - j ∧ j ≤ ds.length ∧ ∃ m G', Same G1 G' ∧ Sep K G' m H ∧ goB T tt (rb P) (wipeN n vs) (fun m2 => ∃ acc, m2 P = some (.lst acc) ∧ q (.lst acc) (mdel m2 P)) (ds.drop j) m, ⟨ds.length, by simp, Nat.zero_le _, _, G1, Same.refl _, s1.alloc hP (.lst .nil), k P (s1.freeM hP)⟩, ?_⟩
  rintro j z H2 ⟨rfl, hj, m2, G2, e2, s2, k2⟩
  by_cases hlt : j < ds.length
  · refine .inr ⟨S.go j H2 m2 G2 e2 s2 hlt, fun H' => ∃ m G', Same G1 G' ∧ Sep K G' m H' ∧ goB T tt (rb P) (wipeN n vs) (fun m2 => ∃ acc, m2 P = some (.lst acc) ∧ q (.lst acc) (mdel m2 P)) (ds.drop (j + 1)) m, fun H' h => ⟨ds.length - (j + 1), by omega, rfl, hlt, h⟩, fun x H' y => ?_⟩
    exact low_turns S hw (hn.mono e1) e2 s2 hlt k2 x H' y fun m' G' H' e s k => ⟨m', G', e, s, k⟩
  · have e : j = ds.length := by omega
    subst e
    rw [List.drop_length, goB] at k2
    exact .inl ⟨S.stop H2 m2 G2 e2 s2, frz_end hq P m2 G2 H2 (e1.trans e2) s2 k2⟩
end
theorem turn_eq {elt i0 t0 i1 t1 i2 t2 : Expr} {f0 f1 f2 : List Expr} {scope : Scope} {pos : Pos} {it acc : Value} {env : Env} : compTurn (.ListComp elt [⟨t0, i0, f0, 0⟩, ⟨t1, i1, f1, 0⟩, ⟨t2, i2, f2, 0⟩] scope pos) 0 it acc env = turnB elt [⟨t0, i0, f0, 0⟩, ⟨t1, i1, f1, 0⟩, ⟨t2, i2, f2, 0⟩] scope pos 0 i0.pos t0 f0 it acc env (stageB elt [⟨t0, i0, f0, 0⟩, ⟨t1, i1, f1, 0⟩, ⟨t2, i2, f2, 0⟩] scope pos 1 i1 acc env) := by
  unfold compTurn turnB stageB
  simp
  rfl
theorem turn_eq1 {elt i0 t0 i1 t1 i2 t2 : Expr} {f0 f1 f2 : List Expr} {scope : Scope} {pos : Pos} {it acc : Value} {env : Env} : compTurn (.ListComp elt [⟨t0, i0, f0, 0⟩, ⟨t1, i1, f1, 0⟩, ⟨t2, i2, f2, 0⟩] scope pos) 1 it acc env = turnB elt [⟨t0, i0, f0, 0⟩, ⟨t1, i1, f1, 0⟩, ⟨t2, i2, f2, 0⟩] scope pos 1 i1.pos t1 f1 it acc env (stageB elt [⟨t0, i0, f0, 0⟩, ⟨t1, i1, f1, 0⟩, ⟨t2, i2, f2, 0⟩] scope pos 2 i2 acc env) := by
  unfold compTurn turnB stageB
  simp
  rfl
/-! ### three clauses -/
section
variable {X : Cx} {W : WX} {elt i0 t0 i1 t1 i2 t2 : Expr} {f0 f1 f2 : List Expr} {scope : Scope} {own : List (Str × Nat)} {pos : Pos} {r0 r1 r2 : RI} {T0 T1 T2 : Tgt} {q0 q1 q2 : RT} {te : RE} {v0 v1 v2 : List Nat}
abbrev Blk (X : Cx) (scope : Scope) (P : Cx → Prop) : Prop := ∀ (s : Shared) (H : Hp) (C : Addr) (cl : List (Str × Addr)) (fp : List Addr), P (X.blk s H scope (compEnvC scope cl C X.env) fp)
theorem de_lc3 (hc : X.calm = true) (hN : X.N.Nodup) (h0 : DI X W t0 i0 r0) (ok : BlkOk X.N X.env.scope scope own) (hv : own.map (·.2) = v0) (w0 : T0.within v0 = true) (w1 : T1.within v1 = true) (w2 : T2.within v2 = true) (in1 : ∀ j ∈ v1, j ∈ v0) (in2 : ∀ j ∈ v2, j ∈ v1)
    (g0 : Blk X scope fun B => PG B t0 (gT X.K T0)) (c0 : Blk X scope fun B => DTs B W0 f0 q0) (h1 : Blk X scope fun B => DI B W0 t1 i1 r1) (g1 : Blk X scope fun B => PG B t1 (gT X.K T1)) (c1 : Blk X scope fun B => DTs B W0 f1 q1)
    (h2 : Blk X scope fun B => DI B W0 t2 i2 r2) (g2 : Blk X scope fun B => PG B t2 (gT X.K T2)) (c2 : Blk X scope fun B => DTs B W0 f2 q2) (he : Blk X scope fun B => DE B W0 elt te) (hs : ∀ x, foldedSetIterable i0 X.env x = pure x := by intro _; rfl)
    (s1 : ∀ env x, foldedSetIterable i1 env x = pure x := by intro _ _; rfl) (s2 : ∀ env x, foldedSetIterable i2 env x = pure x := by intro _ _; rfl) :
    DE X W (.ListComp elt [⟨t0, i0, f0, 0⟩, ⟨t1, i1, f1, 0⟩, ⟨t2, i2, f2, 0⟩] scope pos) (rLcG r0 T0 q0 (fun P => rbClause r1 T1 q1 (rbClause r2 T2 q2 (rbEmit P te) v2) v1) v0) := by
  subst hv
  refine PE.imp (pe_lcG (ws := v1) (body := fun D env => stageB elt [⟨t0, i0, f0, 0⟩, ⟨t1, i1, f1, 0⟩, ⟨t2, i2, f2, 0⟩] scope pos 1 i1 (.ref D) env) hc hN h0 ok (fun D it env => turn_eq) g0 c0 (fun D s H C cl fp => ?_) in1 hs) (low_first w0)
  refine PB.imp (pb_clause (d := 0) (D := D) (ws := v2) (body := stageB elt [⟨t0, i0, f0, 0⟩, ⟨t1, i1, f1, 0⟩, ⟨t2, i2, f2, 0⟩] scope pos 2 i2 (.ref D) (compEnvC scope cl C X.env)) hc rfl (fun it => turn_eq1) rfl (s1 _) (h1 s H C cl fp) (g1 s H C cl fp) (c1 s H C cl fp) ?_ in2) (low_clause w1)
  refine PB.imp (pb_clause (d := 1) (D := D) (ws := []) (body := emitB elt (.ref D) (compEnvC scope cl C X.env)) hc rfl (fun _ => rfl) rfl (s2 _) (h2 s H C cl fp) (g2 s H C cl fp) (c2 s H C cl fp) ?_ (fun _ h => absurd h List.not_mem_nil)) (low_clause w2)
  exact PB.imp (pb_emit rfl (he s H C cl fp)) low_emit
end
end DL

/-! DL28: a named list of one's own that won't change any more behind a statement -/
namespace DL
open PySem PySem.Spec PyProof.Rows L2
theorem RepN.recast {K : PySem.W.Frag} {H : Hp} {d : D} {p : Addr} (hd : Rep K H d (.ref p)) : ∀ {r : Nv} {t : L2.St} {i : Nat}, RepN K H r t → r[i]? = some (some (.ref p)) → RepN K H (r.set i (some d)) t
  | _, _, _, .nil, h => by simp at h
  | _, _, 0, .yes a r, e => by
    simp at e
    subst e
    cases a
    exact .yes hd r
  | _, _, 0, .no r, e => by simp at e
  | _, _, i + 1, .yes a r, e => by
    simp at e
    exact .yes a (RepN.recast hd r e)
  | _, _, i + 1, .no r, e => by
    simp at e
    exact .no (RepN.recast hd r e)
def rFzS (i : Nat) (r : RS) : RS := fun xd e n m => r xd { e with nx := fun n1 m1 => ∃ p ds, n1[i]? = some (some (.ref p)) ∧ m1 p = some (.lst ds) ∧ e.nx (n1.set i (some (.lst ds))) (mdel m1 p) } n m
theorem ds_fz {X : Cx} {W : WX} {s : Stmt} {r : RS} {i : Nat} (h : DS X W s r) : DS X W s (rFzS i r) := PS.imp h fun D t H ⟨n, m, G, xd, e, hn, hs, hl, hr, L⟩ =>
  ⟨n, m, G, xd, _, hn, hs, hl, hr, ⟨fun n1 m1 t1 G1 H1 e1 s1 r1 ⟨p, ds, a, b, k⟩ => by
    obtain ⟨vs, h1, rv⟩ := s1.lst b
    obtain ⟨s2, e2⟩ := s1.freeze b h1
    exact L.nx _ _ _ _ H1 (e1.trans e2) s2 ((r1.mono e2).recast (.lst upd_same (rv.mono e2)) a) k, L.rt, L.bk, L.ct⟩⟩
end DL

/-! DL29: list(d) of a dict whose keys are tuples; defs that call themselves -/
namespace DL
open PySem PySem.Spec PyProof.Rows L2
section
variable {X : Cx} {W : WX} {pos : Pos}
theorem RepT.keys {K : PySem.W.Frag} {G : Hp} : ∀ {kvs : List (D × D)} {xs : List (NestedKey × Addr × V)}, RepT K G kvs xs → Reps K G (kvs.map (·.1)) (xs.map fun x => V.ref x.2.1)
  | _, _, .nil => .nil
  | _, _, .cons _ _ r _ t => .cons r t.keys
theorem vals_keys {w : World} : ∀ (xs : List (NestedKey × Addr × V)) (us ks : List Value), xs.length = us.length → ks.length = xs.length → (∀ (j : Nat) v, ks[j]? = some v → ∃ e : DictEntry, ((xs.zip us).map fun z => (⟨z.1.1.hash w, .ref z.1.2.1, z.2⟩ : DictEntry))[j]? = some e ∧ v = e.key) → Vals (xs.map fun x => V.ref x.2.1) ks
  | [], _, [], _, _, _ => .nil
  | [], _, _ :: _, _, h, _ => by cases h
  | _ :: _, _, [], _, h, _ => by cases h
  | _ :: _, [], _, h, _, _ => by cases h
  | x :: xs, u :: us, k :: ks, h1, h2, h => by
    refine .cons ?_ (vals_keys (w := w) xs us ks (by simpa using h1) (by simpa using h2) fun j v e => ?_)
    · obtain ⟨e, e1, e2⟩ := h 0 k rfl
      simp at e1
      subst e1
      exact e2
    · obtain ⟨e', e1, e2⟩ := h (j + 1) v (by simpa using e)
      exact ⟨e', by simpa using e1, e2⟩
theorem call_list_no (hc : X.calm = true) : CallR X (.type "list") (fun vs H Q => ∃ (p : Addr) (xs : List (NestedKey × Addr × V)), vs = [.ref p] ∧ (∃ ep, H p = some (dNo p ep xs)) ∧ (p == sysModules) = false ∧ xs.length ≤ sizeLine ∧ ∀ l, H l = none → Q (.ref l) (upd H l (.lst (xs.map fun x => V.ref x.2.1)))) := by
  intro pins s σ H xs us Q I r h
  obtain ⟨p, xs, rfl, ⟨ep, hp⟩, z, hl, q⟩ := h
  obtain ⟨u, rfl, rx⟩ := vals1 r
  obtain rfl : u = .ref p := rx
  obtain ⟨⟨w, o, es, us, hv, ho, hx, hd, he⟩, _, _⟩ := I.hok p _ hp
  have hlen : xs.length = us.length := by rw [← hv.length, List.length_map]
  have hes : es.size = xs.length := by
    rw [← Array.length_toList, he, List.length_map, List.length_zip]
    omega
  refine PySem.W.kdl_call (KdlSrc.rawDict (prog := X.prog) (w := X.w) (es := es) (ep := ep) z) (I.ok.hd hc) ⟨o, ho, hx, hd⟩ (by omega) fun h' tk acc c hk hS hacc => ?_
  have hn : H s.heap.objs.size = none := I.hok.fresh (Nat.le_refl _)
  have hv2 : Vals (xs.map fun x => V.ref x.2.1) acc.toList := by
    refine vals_keys (w := w) xs us acc.toList hlen (by rw [Array.length_toList, hacc.1, hes]) fun j v e => ?_
    obtain ⟨hi, e2⟩ := hacc.2 j v (by rw [← Array.getElem?_toList]; exact e)
    refine ⟨es[j], ?_, e2⟩
    rw [← he, Array.getElem?_toList]
    exact Array.getElem?_eq_getElem hi
  have new : ObjOk X.prog X.w (upd H s.heap.objs.size (.lst (xs.map fun x => V.ref x.2.1))) h' s.heap.objs.size (.lst (xs.map fun x => V.ref x.2.1)) := by
    refine ⟨?_, acc.toList, c, hv2, ?_⟩
    · rw [List.length_map]
      exact hl
    · simpa using hS
  exact ⟨.ref s.heap.objs.size, _, I.laid hk (Nat.le_refl _) new, rfl, q _ hn⟩
/-- list(d) -/
def gKeysT : List D → Mem → QD → Prop
  | [x], m, q => ∃ kvs, dctOf x m = some (true, kvs) ∧ q (.lst (kvs.map (·.1))) m
  | _, _, _ => False
theorem cd_keysT (hc : X.calm = true) : CallR X (.type "list") (lowC X.K gKeysT) := crN (call_list_no hc) fun H G m ds vs q Q hr hs hg hq => by
  unfold gKeysT at hg
  split at hg
  · obtain ⟨kvs, e, k⟩ := hg
    cases hr with
    | cons h r =>
      cases r
      obtain ⟨p, xs, rfl, hp, z, l, nd, rt⟩ := dctT_at hs h e
      refine ⟨p, xs, rfl, hp, z, l, fun l hl => ?_⟩
      obtain ⟨s2, e2⟩ := hs.laid hl (.lst (xs.map fun x => V.ref x.2.1))
      exact hq _ m _ _ _ e2 s2 (.lst upd_same (rt.keys.mono e2)) k
  · exact False.elim hg
/-- what no call can be asked for -/
theorem cal_none {P : Program} {w : World} {K : PySem.W.Frag} {mg : Str → Option Value} {base : Heap} {k : Nat} {x : Str} {ps : List Str} {f : Addr} {fd : FuncData} (b : Binds K fd ps []) (h : mg x = some (.ref f)) (kp : PySem.W.keepIn K (.ref f) = true) : CalD P w K mg base k x ps (fun _ _ _ _ => False) :=
  ⟨f, fd, ⟨fun vs H Q E ⟨_, _, _, _, _, _, _, h, _⟩ => h.elim, fun A outer s H args us vs Q E _ _ _ _ ⟨_, _, _, _, _, _, _, h, _⟩ => h.elim⟩, b, h, kp⟩
end

/-! ### sorting: the order in which things came is of no matter -/
open PySem.W in
mutual
theorem toks_pre : ∀ (x y : PyData) (a b : List (Int ⊕ List Nat)), alike x y = true → keyToks x ++ a = keyToks y ++ b → x = y ∧ a = b
  | .none, .none, _, _, _, h => ⟨rfl, by simpa [keyToks] using h⟩
  | .bool p, .bool r, _, _, _, h => by
    cases p <;> cases r <;> simp [keyToks] at h ⊢ <;> exact h
  | .int i, .int j, _, _, _, h => by simpa [keyToks] using h
  | .str p, .str r, _, _, _, h => by
    simp only [keyToks, List.cons_append, List.nil_append, List.cons.injEq, Sum.inr.injEq] at h
    refine ⟨?_, h.2⟩
    obtain ⟨p⟩ := p
    obtain ⟨r⟩ := r
    rw [show p = r from Array.toList_inj.mp h.1]
  | .list xs, .list ys, a, b, h, e => by
    rw [alike] at h
    rw [keyToks, keyToks] at e
    obtain ⟨e1, e2⟩ := toks_preAll xs ys a b h e
    exact ⟨by rw [e1], e2⟩
  | .tuple xs, .tuple ys, a, b, h, e => by
    rw [alike] at h
    rw [keyToks, keyToks] at e
    obtain ⟨e1, e2⟩ := toks_preAll xs ys a b h e
    exact ⟨by rw [e1], e2⟩
  | .dict _, y, _, _, h, _ => by cases y <;> simp [alike] at h
  | .none, .bool _, _, _, h, _ => by simp [alike] at h
  | .none, .int _, _, _, h, _ => by simp [alike] at h
  | .none, .str _, _, _, h, _ => by simp [alike] at h
  | .none, .list _, _, _, h, _ => by simp [alike] at h
  | .none, .tuple _, _, _, h, _ => by simp [alike] at h
  | .none, .dict _, _, _, h, _ => by simp [alike] at h
  | .bool _, .none, _, _, h, _ => by simp [alike] at h
  | .bool _, .int _, _, _, h, _ => by simp [alike] at h
  | .bool _, .str _, _, _, h, _ => by simp [alike] at h
  | .bool _, .list _, _, _, h, _ => by simp [alike] at h
  | .bool _, .tuple _, _, _, h, _ => by simp [alike] at h
  | .bool _, .dict _, _, _, h, _ => by simp [alike] at h
  | .int _, .none, _, _, h, _ => by simp [alike] at h
  | .int _, .bool _, _, _, h, _ => by simp [alike] at h
  | .int _, .str _, _, _, h, _ => by simp [alike] at h
  | .int _, .list _, _, _, h, _ => by simp [alike] at h
  | .int _, .tuple _, _, _, h, _ => by simp [alike] at h
  | .int _, .dict _, _, _, h, _ => by simp [alike] at h
  | .str _, .none, _, _, h, _ => by simp [alike] at h
  | .str _, .bool _, _, _, h, _ => by simp [alike] at h
  | .str _, .int _, _, _, h, _ => by simp [alike] at h
  | .str _, .list _, _, _, h, _ => by simp [alike] at h
  | .str _, .tuple _, _, _, h, _ => by simp [alike] at h
  | .str _, .dict _, _, _, h, _ => by simp [alike] at h
  | .list _, .none, _, _, h, _ => by simp [alike] at h
  | .list _, .bool _, _, _, h, _ => by simp [alike] at h
  | .list _, .int _, _, _, h, _ => by simp [alike] at h
  | .list _, .str _, _, _, h, _ => by simp [alike] at h
  | .list _, .tuple _, _, _, h, _ => by simp [alike] at h
  | .list _, .dict _, _, _, h, _ => by simp [alike] at h
  | .tuple _, .none, _, _, h, _ => by simp [alike] at h
  | .tuple _, .bool _, _, _, h, _ => by simp [alike] at h
  | .tuple _, .int _, _, _, h, _ => by simp [alike] at h
  | .tuple _, .str _, _, _, h, _ => by simp [alike] at h
  | .tuple _, .list _, _, _, h, _ => by simp [alike] at h
  | .tuple _, .dict _, _, _, h, _ => by simp [alike] at h
theorem toks_preAll : ∀ (xs ys : List PyData) (a b : List (Int ⊕ List Nat)), alikeAll xs ys = true → keyToksAll xs ++ a = keyToksAll ys ++ b → xs = ys ∧ a = b
  | [], [], _, _, _, h => ⟨rfl, by simpa [keyToksAll] using h⟩
  | [], _ :: _, _, _, _, h => by simp [keyToksAll] at h
  | _ :: _, [], _, _, _, h => by simp [keyToksAll] at h
  | x :: xs, y :: ys, a, b, h, e => by
    rw [alikeAll, Bool.and_eq_true] at h
    rw [keyToksAll, keyToksAll, List.cons_append, List.cons_append, List.append_assoc, List.append_assoc] at e
    obtain ⟨e1, e2⟩ := toks_pre x y _ _ h.1 (List.cons.inj e).2
    obtain ⟨e3, e4⟩ := toks_preAll xs ys _ _ h.2 e2
    exact ⟨by rw [e1, e3], e4⟩
end
mutual
theorem toP_inj : ∀ {k : Nat} {x y : D}, fl k x = true → fl k y = true → toP x = toP y → x = y
  | k, .tup ds, .tup es, h1, h2, e => by
    cases k with
    | zero => simp [fl] at h1
    | succ k =>
      rw [fl] at h1 h2
      rw [toP, toP] at e
      rw [toPs_inj h1 h2 (PyData.tuple.inj e)]
  | k, .lst ds, .lst es, h1, h2, e => by
    cases k with
    | zero => simp [fl] at h1
    | succ k =>
      rw [fl] at h1 h2
      rw [toP, toP] at e
      rw [toPs_inj h1 h2 (PyData.list.inj e)]
  | _, .non, y, _, h2, e => by cases y <;> simp_all [toP, fl]
  | _, .bl _, y, _, h2, e => by cases y <;> simp_all [toP, fl]
  | _, .int _, y, _, h2, e => by cases y <;> simp_all [toP, fl]
  | _, .str _, y, _, h2, e => by cases y <;> simp_all [toP, fl]
  | _, .ref _, _, h, _, _ => by simp [fl] at h
  | _, .ty _, _, h, _, _ => by simp [fl] at h
  | _, .scr _, _, h, _, _ => by simp [fl] at h
  | _, .ins _ _, _, h, _, _ => by simp [fl] at h
  | _, .exc _ _ _ _ _, _, h, _, _ => by simp [fl] at h
  | _, .dct _ _, _, h, _, _ => by simp [fl] at h
  | _, .tup _, .non, _, _, e => by simp [toP] at e
  | _, .tup _, .bl _, _, _, e => by simp [toP] at e
  | _, .tup _, .int _, _, _, e => by simp [toP] at e
  | _, .tup _, .str _, _, _, e => by simp [toP] at e
  | _, .tup _, .lst _, _, _, e => by simp [toP] at e
  | _, .tup _, .ref _, _, _, e => by simp [toP] at e
  | _, .tup _, .ty _, _, _, e => by simp [toP] at e
  | _, .tup _, .scr _, _, h, _ => by simp [fl] at h
  | _, .tup _, .ins _ _, _, _, e => by simp [toP] at e
  | _, .tup _, .exc _ _ _ _ _, _, _, e => by simp [toP] at e
  | _, .tup _, .dct _ _, _, _, e => by simp [toP] at e
  | _, .lst _, .non, _, _, e => by simp [toP] at e
  | _, .lst _, .bl _, _, _, e => by simp [toP] at e
  | _, .lst _, .int _, _, _, e => by simp [toP] at e
  | _, .lst _, .str _, _, _, e => by simp [toP] at e
  | _, .lst _, .tup _, _, _, e => by simp [toP] at e
  | _, .lst _, .ref _, _, _, e => by simp [toP] at e
  | _, .lst _, .ty _, _, _, e => by simp [toP] at e
  | _, .lst _, .scr _, _, h, _ => by simp [fl] at h
  | _, .lst _, .ins _ _, _, _, e => by simp [toP] at e
  | _, .lst _, .exc _ _ _ _ _, _, _, e => by simp [toP] at e
  | _, .lst _, .dct _ _, _, _, e => by simp [toP] at e
theorem toPs_inj : ∀ {k : Nat} {xs ys : List D}, fls k xs = true → fls k ys = true → toPs xs = toPs ys → xs = ys
  | _, [], [], _, _, _ => rfl
  | _, [], _ :: _, _, _, e => by simp [toPs] at e
  | _, _ :: _, [], _, _, e => by simp [toPs] at e
  | k, x :: xs, y :: ys, h1, h2, e => by
    rw [fls, Bool.and_eq_true] at h1 h2
    rw [toPs, toPs] at e
    rw [toP_inj h1.1 h2.1 (List.cons.inj e).1, toPs_inj h1.2 h2.2 (List.cons.inj e).2]
end
theorem sortD_mem {a : List D} {d : D} : d ∈ sortD a ↔ d ∈ a := by
  unfold sortD
  exact List.mem_mergeSort
theorem sortD_perm {k : Nat} {a b : List D} (h : a.Perm b) (hf : fls k a = true) (ha : PySem.W.AllAlike (a.map toP)) : sortD a = sortD b := by
  unfold sortD
  have T := PySem.W.sortLe_total (PyProof.Rows.listOrd PyProof.Rows.itemOrd) false fun d : D => PySem.W.keyToks (toP d)
  refine List.Perm.eq_of_pairwise (le := fun x y => PySem.W.dataLe false toP x y = true) ?_ (PySem.W.sort_pairwise T a) (PySem.W.sort_pairwise T b) (((List.mergeSort_perm ..).trans h).trans (List.mergeSort_perm ..).symm)
  intro x y hx hy h1 h2
  have hx : x ∈ a := List.mem_mergeSort.mp hx
  have hy : y ∈ a := h.mem_iff.mpr (List.mem_mergeSort.mp hy)
  have h1 : (!(PyProof.Rows.listOrd PyProof.Rows.itemOrd).blt (PySem.W.keyToks (toP y)) (PySem.W.keyToks (toP x))) = true := h1
  have h2 : (!(PyProof.Rows.listOrd PyProof.Rows.itemOrd).blt (PySem.W.keyToks (toP x)) (PySem.W.keyToks (toP y))) = true := h2
  rw [Bool.not_eq_true'] at h1 h2
  have e := (PyProof.Rows.listOrd PyProof.Rows.itemOrd).total _ _ h2 h1
  have al := ha _ (List.mem_map_of_mem (f := toP) hx) _ (List.mem_map_of_mem (f := toP) hy)
  exact toP_inj (fls_iff.mp hf x hx) (fls_iff.mp hf y hy) (toks_pre _ _ [] [] al (by rw [List.append_nil, List.append_nil]; exact e)).1
end DL

/-! DL30: sorted(d), d.get(k) of dicts whose keys are tuples -/
namespace DL
open PySem PySem.Spec PyProof.Rows L2
section
variable {X : Cx} {W : WX} {pos : Pos}
theorem sortT_go (hc : X.calm = true) (hu : X.A.units + 64 < cLine) {pins : List (Addr × Obj)} {σ : L2.St} {G H : Hp} {m : Mem} {s : Shared} {p : Addr} {kvs : List (D × D)} {xs : List (NestedKey × Addr × V)} {Q : VK} (I : Inv X pins σ H s) (hs : Sep X.K G m H) {ep : Nat} (hp : H p = some (dNo p ep xs)) (z : (p == sysModules) = false) (hl : xs.length ≤ sizeLine) (rt : RepT X.K G kvs xs) (f : fls 50 (kvs.map (·.1)) = true) (ha : PySem.W.AllAlike ((kvs.map (·.1)).map toP)) (hk : PySem.W.Sortable ((kvs.map (·.1)).map toP))
    (q : ∀ l zs, H l = none → Reps X.K G (sortD (kvs.map (·.1))) zs → Q (.ref l) (upd H l (.lst zs))) : wpAny (model X.prog X.w) X.A (call (.builtin "sorted") [.ref p]) (EP X pins σ Q) X.xe s := by
  obtain ⟨⟨w, o, es, us, hv, ho, hx, hd, he⟩, _, _⟩ := I.hok p _ hp
  have hlen : xs.length = us.length := by rw [← hv.length, List.length_map]
  have hes : es.size = xs.length := by
    rw [← Array.length_toList, he, List.length_map, List.length_zip]
    omega
  refine Calls.call_function_entry PyProof.Rows.kind_sorted PyProof.Rows.plain_sorted PyProof.Rows.entry_sorted (PyProof.Rows.args_sorted1 _) ?_
  unfold Builtin.«sorted»
  refine wpAny_bind (m := checkCount "sorted" 1 1 _) (wpAny_pure ?_)
  refine wpAny_bind (PySem.W.kdu_collect (A := X.A.in1) (KdlSrc.rawDict (prog := X.prog) (w := X.w) (es := es) (ep := ep) z) (I.ok.hd hc) ⟨o, ho, hx, hd⟩ (by omega) fun h' tk acc hkp hacc => ?_)
  have hv2 : Vals (xs.map fun x => V.ref x.2.1) acc.toList := by
    refine vals_keys (w := w) xs us acc.toList hlen (by rw [Array.length_toList, hacc.1, hes]) fun j v e => ?_
    obtain ⟨hi, e2⟩ := hacc.2 j v (by rw [← Array.getElem?_toList]; exact e)
    refine ⟨es[j], ?_, e2⟩
    rw [← he, Array.getElem?_toList]
    exact Array.getElem?_eq_getElem hi
  have I1 : Inv X pins σ H { s with heap := h', toks := tk } := I.kept hkp
  obtain ⟨h1, h2⟩ := each_reps I1 hs rt.keys hv2 f
  have hal : acc.toList.length ≤ sizeLine := by
    rw [Array.length_toList, hacc.1, hes]
    exact hl
  refine wpAny_bind (wpAny_newList ?_ hal)
  have hoL : (h'.push (seqObj "list" acc.toList.toArray 0)).get? h'.objs.size = some (seqObj "list" acc.toList.toArray 0) := Heap.get?_push_size _ rfl
  show wpAny _ _ _ _ _ { s with heap := h'.push (seqObj "list" acc.toList.toArray 0), toks := tk }
  have old : ∀ b o, h'.get? b = some o → (PySem.W.sortingHeap (h'.push (seqObj "list" acc.toList.toArray 0)) h'.objs.size acc.toList).get? b = some o := fun b o e =>
    PySem.W.sortingHeap_old (Nat.ne_of_lt (Heap.lt_size e)) (Heap.get?_push_of_some _ e)
  have er' : PySem.W.EachIs (fun v b => ∃ as, Reads (PySem.W.sortingHeap (h'.push (seqObj "list" acc.toList.toArray 0)) h'.objs.size acc.toList) v (toP b) as) acc.toList (kvs.map (·.1)) := h2.mono fun _ _ ⟨as, r⟩ => ⟨as, PyProof.Rows.Reads.keeps old r⟩
  refine wpAny_bind (wpAny_holding (wpAny_call_entry PyProof.Rows.slot_list_sort ⟨_, hoL, rfl⟩ PyProof.Rows.entry_list_sort
    (PySem.W.list_sort_vals (κ := PySem.W.dataKind (PySem.W.sortingHeap (h'.push (seqObj "list" acc.toList.toArray 0)) h'.objs.size acc.toList) ((kvs.map (·.1)).map toP)) (s := { s with heap := h'.push (seqObj "list" acc.toList.toArray 0), toks := tk }) hoL
      (PySem.W.SortsAt.data (s := { s with heap := PySem.W.sortingHeap (h'.push (seqObj "list" acc.toList.toArray 0)) h'.objs.size acc.toList, toks := tk }) (PySem.W.each_map (R := fun v d => ∃ as, Reads (PySem.W.sortingHeap (h'.push (seqObj "list" acc.toList.toArray 0)) h'.objs.size acc.toList) v d as) toP er') ha hk (PySem.W.bound_map fun b hb => ?_)) hal ⟨_, rfl, ?_⟩)
    (PyProof.Rows.args_list_sort _)))
  · have := fl_depth (fls_iff.mp f b hb)
    simp only [Around.in1]
    omega
  have eo := PySem.W.sortVals_data false h1 er' ha
  obtain ⟨zs, rz, vz⟩ := each_back eo
  have hlz : zs.length ≤ sizeLine := by
    rw [vz.length, PySem.W.sortVals_length false rfl]
    exact hal
  obtain ⟨e', he'⟩ := PyProof.Rows.sortedHeap_at (vs := acc.toList) (out := (PySem.W.sortVals (PySem.W.dataKind (PySem.W.sortingHeap (h'.push (seqObj "list" acc.toList.toArray 0)) h'.objs.size acc.toList) ((kvs.map (·.1)).map toP)) false acc.toList acc.toList).toArray) hoL
  refine wpAny_pure ⟨_, rfl, .ref h'.objs.size, upd H h'.objs.size (.lst zs), I1.laid (t' := tk) (fun b u e => ?_) (Nat.le_refl _) ⟨hlz, _, e', vz, he'⟩, rfl, q _ zs (I1.hok.fresh (Nat.le_refl _)) rz⟩
  have hb : b < h'.objs.size := Heap.lt_size e
  rw [PyProof.Rows.sortedHeap_old (Nat.ne_of_lt hb) (by rw [PyProof.Rows.size_push']; exact Nat.lt_succ_of_lt hb)]
  exact Heap.get?_push_of_some _ e
/-- sorted(d) -/
def gSortD : List D → Mem → QD → Prop
  | [x], m, q => ∃ kvs, dctOf x m = some (true, kvs) ∧ fls 50 (kvs.map (·.1)) = true ∧ PySem.W.AllAlike ((kvs.map (·.1)).map toP) ∧ PySem.W.Sortable ((kvs.map (·.1)).map toP) ∧ q (.lst (sortD (kvs.map (·.1)))) m
  | _, _, _ => False
def gSortDO : List D → Mem → QD → Prop
  | [x], m, q => ∃ kvs, dctOf x m = some (true, kvs) ∧ fls 50 (kvs.map (·.1)) = true ∧ PySem.W.AllAlike ((kvs.map (·.1)).map toP) ∧ PySem.W.Sortable ((kvs.map (·.1)).map toP) ∧ ∀ p, m p = none → q (.ref p) (mset m p (.lst (sortD (kvs.map (·.1)))))
  | _, _, _ => False
theorem cd_sortD (hc : X.calm = true) (hu : X.A.units + 64 < cLine) : CallR X (.builtin "sorted") (lowC X.K gSortD) := by
  intro pins s σ H xs us Q I r ⟨ds, m, G, q, hr, hs, hg, hq⟩
  unfold gSortD at hg
  split at hg
  · obtain ⟨kvs, e, f, ha, hk, k⟩ := hg
    cases hr with
    | cons h t =>
      cases t
      cases r with
      | cons r1 r2 =>
        cases r2
        obtain ⟨p, xs, rfl, ⟨ep, hp⟩, z, l, nd, rt⟩ := dctT_at hs h e
        cases r1
        refine sortT_go hc hu I hs hp z l rt f ha hk fun l zs hl rz => ?_
        obtain ⟨s2, e2⟩ := hs.laid hl (.lst zs)
        exact hq _ m _ _ _ e2 s2 (.lst upd_same (rz.mono e2)) k
  · exact False.elim hg
theorem cd_sortDO (hc : X.calm = true) (hu : X.A.units + 64 < cLine) : CallR X (.builtin "sorted") (lowC X.K gSortDO) := by
  intro pins s σ H xs us Q I r ⟨ds, m, G, q, hr, hs, hg, hq⟩
  unfold gSortDO at hg
  split at hg
  · obtain ⟨kvs, e, f, ha, hk, k⟩ := hg
    cases hr with
    | cons h t =>
      cases t
      cases r with
      | cons r1 r2 =>
        cases r2
        obtain ⟨p, xs, rfl, ⟨ep, hp⟩, z, l, nd, rt⟩ := dctT_at hs h e
        cases r1
        refine sortT_go hc hu I hs hp z l rt f ha hk fun l zs hl rz => ?_
        exact hq _ _ _ G _ (Same.refl G) (hs.alloc hl (.lst rz)) (.ref l) (k l (hs.freeM hl))
  · exact False.elim hg
/-! ### d.get(k) -/
def gGetT : D → List D → Mem → QD → Prop := fun x ds m q => ∃ kvs es k, dctOf x m = some (true, kvs) ∧ ds = [.tup es] ∧ nkOf (.tup es) = some k ∧ k.depth ≤ 8 ∧ q ((getT kvs k).getD .non) m
theorem md_getT (hu : X.A.units + 64 < cLine) : MtR X "dict.get" (lowM X.K gGetT) := by
  intro pins s σ H x xs v us Q I rx rv ⟨d, ds, m, G, q, hd, hr, hs, ⟨kvs, es, k, e, eds, ek, hk, kq⟩, hq⟩
  subst eds
  obtain ⟨p, ys, rfl, ⟨ep, hp⟩, z, l, nd, rt⟩ := dctT_at hs hd e
  cases rx
  cases hr with
  | cons h r =>
    cases r
    cases h with
    | tup e1 r1 =>
      cases rv with
      | cons rv1 rv2 =>
        cases rv2
        cases rv1
        have rt' := rt.mono hs.sub
        obtain ⟨ws, hv, hD⟩ := keyed_at I hp rt' nd
        have hk' : (nestedKind X.prog X.w).is s.heap k _ := ⟨nk_is I ((Rep.tup e1 r1).mono hs.sub) rfl ek, hk⟩
        refine get_keyed (show X.A.in1.units + 8 < cLine by simp only [Around.in1]; omega) hk' z ⟨_, hD, rfl⟩ ?_
        rw [valueAt_pairsH]
        rcases getT_at (X := X) (H := G) (k := k) rt hv with ⟨h1, h2⟩ | ⟨e', v', a', u', h1, h2, h3, h4⟩
        · rw [h2]
          rw [h1] at kq
          exact ⟨.non, H, I.tok _, rfl, hq.here hs .non kq⟩
        · rw [h2]
          rw [h1] at kq
          exact ⟨v', H, I.tok _, h4, hq _ m _ G H (Same.refl G) hs h3 kq⟩
def rGetT (ro : RE) (ra : RA) : RE := fun xd n m q => ro xd n m fun x m1 => (∃ kvs, dctOf x m1 = some (true, kvs)) ∧ ra xd n m1 fun ds m2 => gGetT x ds m2 q
def tBMT (r : V → List V → Hp → VK → Prop) (to : TE) (t : TA) : TE := fun σ H Q => to σ H fun x H1 => (∃ p xs ep, x = .ref p ∧ H1 p = some (dNo p ep xs)) ∧ t σ H1 fun xs H2 => r x xs H2 Q
theorem pe_bmT {o e : Expr} {es : List Expr} {to : TE} {t : TA} {name : Str} {apos cpos : Pos} {id : String} {r : V → List V → Hp → VK → Prop} (slot : Slot "dict" name id) (hty : typeOf (.builtin id) = pure (.type "method_descriptor")) (hm : MtR X id r) (ho : PE X o to) (ha : PA X (e :: es) t)
    (hbase : attributeBase o name X.env (eval o X.env) = eval o X.env := by rfl)
    (hfew : ((backTo cpos (starEach (e :: es) X.env)).all (fun x => !x.1) && (backToKw cpos (keywordEach [] X.env)).all (fun x => x.1.isSome)
      && decide ((e :: es).length + ([] : List Keyword).length + (if ([] : List Keyword).isEmpty then 0 else 1) < 30)) = true := by rfl)
    (hline : (apos.endLine == cpos.line) = true := by rfl) (hs : starEach (e :: es) X.env = (false, eval e X.env) :: starEach es X.env := by rfl) (hplain : (backTo cpos (starEach es X.env)).any (·.1) = false := by rfl) :
    PE X (.Call (.Attribute o name apos) (e :: es) [] cpos) (tBMT r to t) := by
  refine ⟨fun pins s σ H Q I h => ?_⟩
  refine wpAny_Call_method_late hbase hfew hline rfl (thn (ho.run pins s σ H _ I h) fun v s1 ⟨x, H1, I1, r1, ⟨p, xs, ep, ex, hp⟩, q1⟩ => ?_)
  subst ex
  cases r1
  obtain ⟨⟨w, ob, es', us, hv, hob, hx, hd, he⟩, _, _⟩ := I1.hok p _ hp
  refine ⟨"dict", id, PySem.F.plainAttrs_dict, slot, hty, ⟨ob, hob, hx.1⟩, fun a e => ?_, ?_⟩
  · cases e
    exact ⟨ob, hob, hx.2.1⟩
  have hA := ha.run cpos pins s1 σ H1 _ I1 q1
  rw [hs] at hA ⊢
  refine Calls.callWith_builtin (by show (false || (backTo cpos (starEach es X.env)).any (·.1)) = false; rw [hplain] <;> rfl) (Calls.evalArgs_plain ?_)
  exact thn hA fun us s2 ⟨vs, H2, I2, r2, q2⟩ => hm pins s2 σ H2 (.ref p) vs (.ref p) us Q I2 rfl r2 q2
theorem de_getT {o e : Expr} {es : List Expr} {ro : RE} {ra : RA} {apos cpos : Pos} (hu : X.A.units + 64 < cLine) (ho : DE X W o ro) (ha : DA X W (e :: es) ra)
    (hbase : attributeBase o "get" X.env (eval o X.env) = eval o X.env := by rfl)
    (hfew : ((backTo cpos (starEach (e :: es) X.env)).all (fun x => !x.1) && (backToKw cpos (keywordEach [] X.env)).all (fun x => x.1.isSome)
      && decide ((e :: es).length + ([] : List Keyword).length + (if ([] : List Keyword).isEmpty then 0 else 1) < 30)) = true := by rfl)
    (hline : (apos.endLine == cpos.line) = true := by rfl) (hs : starEach (e :: es) X.env = (false, eval e X.env) :: starEach es X.env := by rfl) (hplain : (backTo cpos (starEach es X.env)).any (·.1) = false := by rfl) :
    DE X W (.Call (.Attribute o "get" apos) (e :: es) [] cpos) (rGetT ro ra) :=
  PE.imp (pe_bmT PySem.F.slot_dict_get PySem.F.type_dict_get (md_getT hu) ho ha hbase hfew hline hs hplain) fun t H Q ⟨n, m, G, xd, q, hn, hs, hl, hr, hq⟩ =>
    ⟨n, m, G, xd, _, hn, hs, hl, hr, fun d m1 v G1 H1 e1 s1 r1 ⟨⟨kvs, ed⟩, q1⟩ => ⟨by
      obtain ⟨p, xs, rfl, ⟨ep, hp⟩, _⟩ := dctT_at s1 r1 ed
      exact ⟨p, xs, ep, rfl, hp⟩, n, m1, G1, xd, _, hn.mono e1, s1, hl.mono e1, q1, fun ds m2 vs G2 H2 e2 s2 r2 q2 => ⟨d, ds, m2, G2, q, r1.mono e2, r2, s2, q2, fun d m' v G' H' e3 s3 r3 q3 => hq d m' v G' H' (e1.trans (e2.trans e3)) s3 r3 q3⟩⟩⟩
end
end DL

/-! DL31: a number asked of a dict whose keys are tuples; == of things with empty dicts in them -/
namespace DL
open PySem PySem.Spec PyProof.Rows L2
section
variable {prog : Program} {w : World} {A : Around} {E : Value → Shared → Prop} {s : Shared}
/-- all stored keys are tuples of numbers and tuples -/
def TupKeys (prog : Program) (w : World) (h : Heap) (es : Array DictEntry) : Prop := ∀ (j : Nat) (x : DictEntry), es[j]? = some x → ∃ k b, x.key = .ref b ∧ (nestedKind prog w).is h k b
theorem num_ne (hu : A.units + 8 < cLine) {i : Int} {t : Tok} {k : NestedKey} {b : Addr} {Q : Bool → Shared → Prop} (hk : (nestedKind prog w).is s.heap k b) (h : Q false s) : wpAny (model prog w) A (eqBool (.ref b) (.int i t)) Q E s := by
  have hk1 := hk.1
  have hk2 := hk.2
  refine eqAt_key k (.num i) A s _ _ hk1 (.int i t) (by omega) _ _ _ _ ?_
  cases hk1 with
  | tup _ _ _ _ => exact h
theorem tell_num {i : Int} {t : Tok} {stored : List Value} {Q : Bool → Shared → Prop} (hst : ∀ v ∈ stored, ∃ k b, v = Value.ref b ∧ (nestedKind prog w).is s.heap k b) (h : Q false s) : wpAny (model prog w) A (tableMayTell (.int i t) stored) Q E s := by
  unfold tableMayTell
  by_cases he : stored.isEmpty = true
  · rw [if_pos he]
    exact wpAny_pure h
  · rw [if_neg he, eqIsQuiet_byValue 8 rfl]
    refine wpAny_bind (wpAny_pure ?_)
    rw [if_neg (by decide)]
    refine wpAny_bind (wpAny_forIn_list _ (fun r z s' => s' = s ∧ z = (none, ()) ∧ ∀ v ∈ r, ∃ k b, v = Value.ref b ∧ (nestedKind prog w).is s.heap k b) _ ?_ ?_ _ _ ⟨rfl, rfl, hst⟩)
    · rintro x r z s' ⟨rfl, rfl, hr⟩
      obtain ⟨k, b, rfl, hb⟩ := hr x List.mem_cons_self
      refine wpAny_bind ((nestedKind prog w).quiet hb ?_)
      rw [if_neg (by decide)]
      exact wpAny_pure ⟨rfl, rfl, fun v hv => hr v (List.mem_cons_of_mem _ hv)⟩
    · rintro z s' ⟨rfl, rfl, _⟩
      exact wpAny_pure h
theorem find_num (hu : A.units + 8 < cLine) {d : Addr} {o : Obj} {es : Array DictEntry} {ep : Nat} {i c : Int} {t : Tok} {Q : Option Nat → Shared → Prop} (ho : s.heap.get? d = some o) (hd : o.data = .dict es ep) (hk : TupKeys prog w s.heap es) (h : Q none s) : wpAny (model prog w) A (dictFind d (.int i t) c) Q E s := by
  unfold dictFind
  try with_reducible refine wpAny_holding ?_
  refine wpAny_bind (wpAny_dictEntries ho hd ?_)
  dsimp only
  generalize placesWithHash es.size (fun i => es[i]?.map (·.hash)) c = ps
  by_cases hall : ((Value.int i t :: ps.filterMap fun i => es[i]?.map (·.key)).all carriedByValue) = true
  · rw [if_pos hall]
    refine wpAny_bind ?_
    refine wpAny_forIn_list _ (fun _ r s' => s' = s ∧ r = (none, ())) _ ?_ ?_ _ _ ⟨rfl, rfl⟩
    · rintro x rest r s' ⟨rfl, rfl⟩
      cases hx : es[x]? with
      | none => exact wpAny_pure ⟨rfl, rfl⟩
      | some y =>
        obtain ⟨k, b, e1, e2⟩ := hk x y hx
        dsimp only
        by_cases hh : (y.hash == c) = true
        · rw [if_pos hh]
          refine wpAny_bind (wpAny_dictEpoch ho hd (wpAny_bind ?_))
          rw [e1]
          refine num_ne hu e2 (wpAny_bind (wpAny_dictEpoch ho hd ?_))
          rw [if_neg (show ¬ (ep != ep) = true by simp)]
          refine wpAny_bind (wpAny_rule ?_)
          exact wpAny_pure ⟨rfl, rfl⟩
        · rw [if_neg hh]
          exact wpAny_pure ⟨rfl, rfl⟩
    · rintro r s' ⟨rfl, rfl⟩
      exact wpAny_pure h
  · rw [if_neg hall]
    have hst : ∀ v ∈ ps.filterMap (fun i => es[i]?.map (·.key)), ∃ k b, v = Value.ref b ∧ (nestedKind prog w).is s.heap k b := fun v hv => by
      obtain ⟨j, _, hj⟩ := List.mem_filterMap.mp hv
      cases hx : es[j]? with
      | none =>
        rw [hx] at hj
        cases hj
      | some y =>
        rw [hx] at hj
        obtain ⟨k, b, e1, e2⟩ := hk j y hx
        exact ⟨k, b, by rw [← e1]; exact (Option.some.inj hj).symm, e2⟩
    generalize ps.filterMap (fun i => es[i]?.map (·.key)) = stored at hst ⊢
    by_cases hone : (stored == [Value.int i t]) = true <;> (first | rw [if_pos hone] | rw [if_neg hone]) <;> (first | refine wpAny_bind (wpAny_pure ?_) | refine wpAny_bind (tell_num hst ?_)) <;> (
      rw [if_neg (by simp)]
      refine wpAny_bind ?_
      refine wpAny_forIn_list _ (fun _ r s' => s' = s ∧ r = (none, none)) _ ?_ ?_ _ _ ⟨rfl, rfl⟩
      · rintro x rest r s' ⟨rfl, rfl⟩
        cases hx : es[x]? with
        | none => exact wpAny_pure ⟨rfl, rfl⟩
        | some y =>
          obtain ⟨k, b, e1, e2⟩ := hk x y hx
          dsimp only
          by_cases hh : (y.hash == c) = true
          · rw [if_pos hh]
            refine wpAny_bind (wpAny_dictEpoch ho hd (wpAny_bind ?_))
            rw [e1]
            refine num_ne hu e2 (wpAny_bind (wpAny_dictEpoch ho hd ?_))
            rw [if_neg (show ¬ (ep != ep) = true by simp), if_neg (by decide)]
            refine wpAny_bind (wpAny_rule ?_)
            rw [if_neg (by simp)]
            exact wpAny_pure ⟨rfl, rfl⟩
          · rw [if_neg hh]
            exact wpAny_pure ⟨rfl, rfl⟩
      · rintro r s' ⟨rfl, rfl⟩
        exact wpAny_pure h)
theorem tup_keys {d : Addr} {xs : List (NestedKey × Addr × Value)} (hm : s.heap.DictOfH (nestedKind prog w) d xs) : ∃ o es ep, s.heap.get? d = some o ∧ o.data = .dict es ep ∧ TupKeys prog w s.heap es ∧ s.TypeIs (.ref d) "dict" := by
  have ty := hm.typeIs
  obtain ⟨o, es, ep, ho, hc, hd, he, his, hn⟩ := hm
  refine ⟨o, es, ep, ho, hd, fun j x hx => ?_, ty⟩
  have hj : es.toList[j]? = some x := by rw [Array.getElem?_toList]; exact hx
  rw [he, List.getElem?_map] at hj
  cases hz : xs[j]? with
  | none =>
    rw [hz] at hj
    cases hj
  | some z =>
    rw [hz] at hj
    cases hj
    exact ⟨z.1, z.2.1, rfl, his z (List.mem_of_getElem? hz)⟩
theorem get_num (hu : A.units + 8 < cLine) {d : Addr} {o : Obj} {es : Array DictEntry} {ep : Nat} {i : Int} {t : Tok} {Q : Option Value → Shared → Prop} (ho : s.heap.get? d = some o) (hd : o.data = .dict es ep) (hk : TupKeys prog w s.heap es) (h : Q none { s with toks := s.toks + (NestedKey.num i).draws }) : wpAny (model prog w) A (dictGet d (.int i t)) Q E s := by
  unfold dictGet
  try with_reducible refine wpAny_holding ?_
  refine wpAny_bind (pyHash_key (.num i) (.int i t) A s _ (.int i t) (by show A.units + 0 < cLine; omega) (wpAny_bind (find_num (s := { s with toks := s.toks + (NestedKey.num i).draws }) hu ho hd hk ?_)))
  exact wpAny_pure h
theorem has_num (hu : A.in1.units + 8 < cLine) {d : Addr} {xs : List (NestedKey × Addr × Value)} {i : Int} {t : Tok} {Q : Bool → Shared → Prop} (z : (d == sysModules) = false) (hm : s.heap.DictOfH (nestedKind prog w) d xs) (h : Q false { s with toks := s.toks + (NestedKey.num i).draws }) : wpAny (model prog w) A (contains (.ref d) (.int i t)) Q E s := by
  obtain ⟨o, es, ep, ho, hd, hk, ty⟩ := tup_keys hm
  refine wpAny_contains_slot ty F.slot_dict_contains ?_
  refine call_meetsIn F.slot_dict_contains ty F.entry_dict_contains (F.args_dict_contains_2 _ _) (S := fun A' R s' => A' = A ∧ s' = s ∧ R (.ok (.ret (.bool false))) { s with toks := s.toks + (NestedKey.num i).draws }) (fun A' R s' hS => ?_) ⟨rfl, rfl, wpAny_truthy_bool h⟩
  obtain ⟨rfl, rfl, hq⟩ := hS
  refine wpAny_bind (m := dictGet d (.int i t)) (get_num hu ho hd hk ?_)
  refine wpAny_bind (m := Builtin.Dict.pendingKey? d (.int i t)) ?_
  exact wpAny_pendingKey_other z (wpAny_pure hq)
end
section
variable {X : Cx} {W : WX} {pos : Pos}
/-- x in d, x a number or a tuple -/
def gInTN (f : Bool → Bool) : D → D → Mem → QD → Prop
  | .int _, y, m, q => ∃ kvs, dctOf y m = some (true, kvs) ∧ q (.bl (f false)) m
  | .tup ds, y, m, q => gInT f (.tup ds) y m q
  | _, _, _, _ => False
theorem od_notInTN (hu : X.A.units + 64 < cLine) : OpR X (compareOp .NotIn) (low2 X.K (gInTN fun b => !b)) := opN fun pins s σ H G m dx dy x y v u q Q I rx ry hx hy hs hg hq => by
  cases dx with
  | tup ds => exact od_notInT hu pins s σ H x y v u Q I rx ry ⟨_, _, m, G, q, hx, hy, hs, hg, hq⟩
  | int i =>
    obtain ⟨kvs, e, hk⟩ := hg
    obtain ⟨p, xs, rfl, ⟨ep, hp⟩, z, l, nd, rt⟩ := dctT_at hs hy e
    obtain ⟨us, hv, hD⟩ := keyed_at I hp (rt.mono hs.sub) nd
    cases ry
    cases hx with
    | int =>
      obtain ⟨t, rfl⟩ := rx
      show wpAny _ _ (do return Value.bool (!(← contains (.ref p) (.int i t)))) _ _ s
      exact wpAny_bind (has_num (by simp only [Around.in1]; omega) z hD (wpAny_pure ⟨.bl _, H, I.tok _, rfl, hq.here hs (.bl _) hk⟩))
  | _ => exact False.elim hg
theorem od_inTN (hu : X.A.units + 64 < cLine) : OpR X (compareOp .In) (low2 X.K (gInTN fun b => b)) := opN fun pins s σ H G m dx dy x y v u q Q I rx ry hx hy hs hg hq => by
  cases dx with
  | tup ds => exact od_inT hu pins s σ H x y v u Q I rx ry ⟨_, _, m, G, q, hx, hy, hs, hg, hq⟩
  | int i =>
    obtain ⟨kvs, e, hk⟩ := hg
    obtain ⟨p, xs, rfl, ⟨ep, hp⟩, z, l, nd, rt⟩ := dctT_at hs hy e
    obtain ⟨us, hv, hD⟩ := keyed_at I hp (rt.mono hs.sub) nd
    cases ry
    cases hx with
    | int =>
      obtain ⟨t, rfl⟩ := rx
      show wpAny _ _ (do return Value.bool (← contains (.ref p) (.int i t))) _ _ s
      exact wpAny_bind (has_num (by simp only [Around.in1]; omega) z hD (wpAny_pure ⟨.bl _, H, I.tok _, rfl, hq.here hs (.bl _) hk⟩))
  | _ => exact False.elim hg
end
end DL

/-! DL32: a thing is equal to itself, also with empty dicts in it -/
namespace DL
open PySem PySem.Spec PyProof.Rows L2
mutual
def thD : Nat → D → Bool
  | _, .non => true
  | _, .bl _ => true
  | _, .int _ => true
  | _, .str _ => true
  | k, .tup ds => match k with
    | 0 => false
    | k + 1 => thDs k ds
  | k, .lst ds => match k with
    | 0 => false
    | k + 1 => thDs k ds
  | _, .dct t kvs => !t && kvs.isEmpty
  | _, .scr _ => false
  | _, .ref _ => false
  | _, .ty _ => false
  | _, .ins _ _ => false
  | _, .exc _ _ _ _ _ => false
  | _, .fn _ _ _ _ _ _ => false
def thDs : Nat → List D → Bool
  | _, [] => true
  | k, d :: ds => thD k d && thDs k ds
end
section
variable {X : Cx} {W : WX} {pos : Pos}
theorem empty_dict {knd : ∀ (P : Program) (w : World), KeyKind P w Key} {P P' : Program} {w w' : World} {h : Heap} {a : Addr} (hd : h.DictOf (knd P w) a []) : h.DictOf (knd P' w') a [] := by
  obtain ⟨o, es, ep, ho, hx, hd, hk, hp, hn⟩ := hd
  have e : es = #[] := by
    have : es.toList = [] := by
      cases hz : es.toList with
      | nil => rfl
      | cons b c =>
        rw [hz] at hp
        cases hp
    exact Array.toList_inj.mp this
  subst e
  exact ⟨o, #[], ep, ho, hx, hd, by first | exact fun _ h => absurd h (by simp) | trivial, .nil, List.nodup_nil⟩
mutual
theorem same_at {pins : List (Addr × Obj)} {σ : L2.St} {H : Hp} {s : Shared} (I : Inv X pins σ H s) : ∀ {n : Nat} {d : D} {x y : V} {v u : Value} {A : Around}, Rep X.K H d x → Rep X.K H d y → thD n d = true → RelV x v → RelV y u → A.units + n < cLine → SeqAt.EqAt A s v u true
  | _, _, _, _, _, _, A, .non, .non, _, r1, r2, _ => by
    cases r1
    cases r2
    exact SeqAt.EqAt.same _
  | _, _, _, _, _, _, A, .bl b, .bl _, _, r1, r2, _ => by
    cases r1
    cases r2
    exact SeqAt.EqAt.same _
  | _, _, _, _, _, _, A, .int i, .int _, _, r1, r2, _ => by
    obtain ⟨t, rfl⟩ := r1
    obtain ⟨t', rfl⟩ := r2
    have := SeqAt.EqAt.int_int (A := A) (s := s) i t i t'
    rwa [beq_self_eq_true] at this
  | _, _, _, _, _, _, A, .str cs, .str _, _, r1, r2, _ => by
    obtain ⟨t, rfl⟩ := r1
    obtain ⟨t', rfl⟩ := r2
    have := SeqAt.EqAt.str_str (A := A) (s := s) ⟨cs.toArray⟩ t ⟨cs.toArray⟩ t'
    rwa [beq_self_eq_true] at this
  | n, _, _, _, _, _, A, .tup (ds := ds) (p := p) e1 q1, .tup (p := p') e2 q2, h, r1, r2, hu => by
    cases r1
    cases r2
    cases n with
    | zero => simp [thD] at h
    | succ n =>
      have h : thDs n ds = true := by simpa [thD] using h
      obtain ⟨us, v1, t1, _⟩ := I.tuple (SqT.of e1)
      obtain ⟨ws, v2, t2, _⟩ := I.tuple (SqT.of e2)
      by_cases ne : p = p'
      · subst ne
        exact SeqAt.EqAt.same _
      · have l1 : us.length = ws.length := by rw [← v1.length, ← v2.length, ← q1.length, ← q2.length]
        have k := SeqAt.RcAt.tuples (A := A) (e := fun _ => true) t1 t2 (by omega) fun j h1 h2 => by
          have := same_all I (A := A.in1) q1 q2 h v1 v2 (by show A.units + 1 + n < cLine; omega) j (by simpa using h1) (by simpa using h2)
          simpa using this
        rw [show ((List.range (min us.toArray.size ws.toArray.size)).all fun _ => true) = true from List.all_eq_true.mpr fun _ _ => rfl, show (us.toArray.size == ws.toArray.size) = true by simp [l1]] at k
        exact SeqAt.EqAt.of_refs ne k
  | n, _, _, _, _, _, A, .lst (ds := ds) (p := p) e1 q1, .lst (p := p') e2 q2, h, r1, r2, hu => by
    cases r1
    cases r2
    cases n with
    | zero => simp [thD] at h
    | succ n =>
      have h : thDs n ds = true := by simpa [thD] using h
      obtain ⟨us, v1, t1, _⟩ := I.list (SqL.of e1)
      obtain ⟨ws, v2, t2, _⟩ := I.list (SqL.of e2)
      by_cases ne : p = p'
      · subst ne
        exact SeqAt.EqAt.same _
      · have l1 : us.length = ws.length := by rw [← v1.length, ← v2.length, ← q1.length, ← q2.length]
        have k := SeqAt.RcAt.lists (A := A) (e := fun _ => true) t1.isList t2.isList (by simpa using l1) (by omega) fun j h1 h2 => by
          have := same_all I (A := A.in1) q1 q2 h v1 v2 (by show A.units + 1 + n < cLine; omega) j (by simpa using h1) (by simpa using h2)
          simpa using this
        rw [show ((List.range us.toArray.size).all fun _ => true) = true from List.all_eq_true.mpr fun _ _ => rfl] at k
        exact SeqAt.EqAt.of_refs ne k
  | n, _, _, _, _, _, A, .dK (kvs := kvs) (p := p) e1 q1, .dK (p := p') e2 q2, h, r1, r2, hu => by
    cases r1
    cases r2
    by_cases ne : p = p'
    · subst ne
      exact SeqAt.EqAt.same _
    · have h : kvs = [] := by simpa [thD] using h
      subst h
      cases q1
      cases q2
      obtain ⟨_, ya, va, ra, da⟩ := (show ObjOk X.prog X.w H s.heap p (.dK []) from rd_of I.hok (.inr ⟨_, e1⟩))
      obtain ⟨_, yb, vb, rb, db⟩ := (show ObjOk X.prog X.w H s.heap p' (.dK []) from rd_of I.hok (.inr ⟨_, e2⟩))
      cases ra
      cases rb
      exact SeqAt.EqAt.of_refs ne fun prog w E Q k => PySem.W.rcP_dicts (knd := mixKind prog w) (r := true) ya yb (empty_dict da) (empty_dict db) (by omega) (fun _ => .nil) E Q k
  | _, _, _, _, _, _, _, .ref _, _, h, _, _, _ => by simp [thD] at h
  | _, _, _, _, _, _, _, .ty _, _, h, _, _, _ => by simp [thD] at h
  | _, _, _, _, _, _, _, .scr _, _, h, _, _, _ => by simp [thD] at h
  | _, _, _, _, _, _, _, .ins _ _ _, _, h, _, _, _ => by simp [thD] at h
  | _, _, _, _, _, _, _, .exc _ _ _, _, h, _, _, _ => by simp [thD] at h
  | _, _, _, _, _, _, _, .exc0 _, _, h, _, _, _ => by simp [thD] at h
  | _, _, _, _, _, _, _, .exv _ _ _ _, _, h, _, _, _ => by simp [thD] at h
  | _, _, _, _, _, _, _, .exv0 _ _, _, h, _, _, _ => by simp [thD] at h
  | _, _, _, _, _, _, _, .dT _ _ _ _ _, _, h, _, _, _ => by simp [thD] at h
theorem same_all {pins : List (Addr × Obj)} {σ : L2.St} {H : Hp} {s : Shared} (I : Inv X pins σ H s) : ∀ {n : Nat} {ds : List D} {xs ys : List V} {us ws : List Value} {A : Around}, Reps X.K H ds xs → Reps X.K H ds ys → thDs n ds = true → Vals xs us → Vals ys ws → A.units + n < cLine → ∀ (j : Nat) (h1 : j < us.length) (h2 : j < ws.length), SeqAt.EqAt A s us[j] ws[j] true
  | _, _, _, _, _, _, _, .nil, .nil, _, r1, r2, _, j, h1, _ => by
    cases r1
    exact absurd h1 (Nat.not_lt_zero _)
  | n, _, _, _, _, _, A, .cons (d := d) (ds := ds) a1 b1, .cons a2 b2, h, r1, r2, hu, j, h1, h2 => by
    have h : thD n d = true ∧ thDs n ds = true := by simpa [thDs] using h
    cases r1 with
    | cons c1 e1 =>
      cases r2 with
      | cons c2 e2 =>
        cases j with
        | zero => exact same_at I a1 a2 h.1 c1 c2 hu
        | succ j => exact same_all I b1 b2 h.2 e1 e2 hu j (Nat.lt_of_succ_lt_succ h1) (Nat.lt_of_succ_lt_succ h2)
end
theorem same_rc {pins : List (Addr × Obj)} {σ : L2.St} {H : Hp} {s : Shared} (I : Inv X pins σ H s) {n : Nat} {d : D} {x y : V} {v u : Value} {A : Around} (hx : Rep X.K H d x) (hy : Rep X.K H d y) (h : thD n d = true) (r1 : RelV x v) (r2 : RelV y u) (hu : A.units + n < cLine) : SeqAt.RcAt A s v u true := by
  cases hx with
  | non =>
    cases hy
    cases r1
    cases r2
    exact SeqAt.RcAt.none_none
  | bl b =>
    cases hy
    cases r1
    cases r2
    have := SeqAt.RcAt.bool_bool (A := A) (s := s) b b
    rwa [beq_self_eq_true] at this
  | int i =>
    cases hy
    obtain ⟨t, rfl⟩ := r1
    obtain ⟨t', rfl⟩ := r2
    have := SeqAt.RcAt.int_int (A := A) (s := s) i t i t'
    rwa [beq_self_eq_true] at this
  | str cs =>
    cases hy
    obtain ⟨t, rfl⟩ := r1
    obtain ⟨t', rfl⟩ := r2
    have := SeqAt.RcAt.str_str (A := A) (s := s) ⟨cs.toArray⟩ t ⟨cs.toArray⟩ t'
    rwa [beq_self_eq_true] at this
  | @tup p ds vs e1 q1 =>
    cases hy with
    | tup e2 q2 =>
      cases r1
      cases r2
      cases n with
      | zero => simp [thD] at h
      | succ n =>
        have h : thDs n ds = true := by simpa [thD] using h
        obtain ⟨us, v1, t1, _⟩ := I.tuple (SqT.of e1)
        obtain ⟨ws, v2, t2, _⟩ := I.tuple (SqT.of e2)
        have l1 : us.length = ws.length := by rw [← v1.length, ← v2.length, ← q1.length, ← q2.length]
        have k := SeqAt.RcAt.tuples (A := A) (e := fun _ => true) t1 t2 (by omega) fun j h1 h2 => by
          have := same_all I (A := A.in1) q1 q2 h v1 v2 (by show A.units + 1 + n < cLine; omega) j (by simpa using h1) (by simpa using h2)
          simpa using this
        rwa [show ((List.range (min us.toArray.size ws.toArray.size)).all fun _ => true) = true from List.all_eq_true.mpr fun _ _ => rfl, show (us.toArray.size == ws.toArray.size) = true by simp [l1]] at k
  | @lst p ds vs e1 q1 =>
    cases hy with
    | lst e2 q2 =>
      cases r1
      cases r2
      cases n with
      | zero => simp [thD] at h
      | succ n =>
        have h : thDs n ds = true := by simpa [thD] using h
        obtain ⟨us, v1, t1, _⟩ := I.list (SqL.of e1)
        obtain ⟨ws, v2, t2, _⟩ := I.list (SqL.of e2)
        have l1 : us.length = ws.length := by rw [← v1.length, ← v2.length, ← q1.length, ← q2.length]
        have k := SeqAt.RcAt.lists (A := A) (e := fun _ => true) t1.isList t2.isList (by simpa using l1) (by omega) fun j h1 h2 => by
          have := same_all I (A := A.in1) q1 q2 h v1 v2 (by show A.units + 1 + n < cLine; omega) j (by simpa using h1) (by simpa using h2)
          simpa using this
        rwa [show ((List.range us.toArray.size).all fun _ => true) = true from List.all_eq_true.mpr fun _ _ => rfl] at k
  | @dK p od kvs us e1 q1 =>
    cases hy with
    | dK e2 q2 =>
      cases r1
      cases r2
      have h : kvs = [] := by simpa [thD] using h
      subst h
      cases q1
      cases q2
      obtain ⟨_, ya, va, ra, da⟩ := (show ObjOk X.prog X.w H s.heap p (.dK []) from rd_of I.hok (.inr ⟨_, e1⟩))
      obtain ⟨_, yb, vb, rb, db⟩ := (show ObjOk X.prog X.w H s.heap _ (.dK []) from rd_of I.hok (.inr ⟨_, e2⟩))
      cases ra
      cases rb
      exact fun prog w E Q k => PySem.W.rcP_dicts (knd := mixKind prog w) (r := true) ya yb (empty_dict da) (empty_dict db) (by omega) (fun _ => .nil) E Q k
  | _ => simp [thD] at h
/-- x == x -/
def gEqS : G2 := fun x y m q => x = y ∧ thD 50 x = true ∧ q (.bl true) m
theorem odEqS (hu : X.A.units + 64 < cLine) : OpR X (compareOp .Eq) (low2 X.K gEqS) := opN fun pins s σ H G m dx dy x y v u q Q I rx ry hx hy hs hg hq => by
  obtain ⟨rfl, ht, k⟩ := hg
  exact same_rc I (hx.mono hs.sub) (hy.mono hs.sub) ht rx ry (by omega) X.prog X.w _ _ ⟨.bl true, H, I, rfl, hq.here hs (.bl _) k⟩
end
end DL

/-! DL33: x in xs, of data -/
namespace DL
open PySem PySem.Spec PyProof.Rows L2
theorem room65 {j : Nat} {A : Around} (r : Room j A) : A.units + 65 < cLine := by
  have := r.un
  omega
section
variable {X : Cx} {W : WX} {pos : Pos}
def gInL (f : Bool → Bool) : G2 := fun x y m q => ∃ ds, lstOf y m = some ds ∧ fl 50 x = true ∧ fls 50 ds = true ∧ q (.bl (f (ds.any fun d => eqD d x))) m
theorem seen_lst {y : D} {m : Mem} {ds : List D} (e : lstOf y m = some ds) : seen y m = .lst ds := by
  cases y with
  | lst es =>
    cases e
    rfl
  | ref p =>
    have e : moLst (m p) = some ds := e
    show moSeen _ (m p) = _
    cases h : m p with
    | none =>
      rw [h] at e
      cases e
    | some o =>
      rw [h] at e
      cases o with
      | lst es =>
        cases e
        rfl
      | _ => cases e
  | _ => cases e
theorem any_eqD (x : D) : ∀ ds : List D, ((toPs ds).any fun z => PyData.eqv z (toP x)) = ds.any fun d => eqD d x
  | [] => rfl
  | d :: ds => by
    rw [toPs, List.any_cons, List.any_cons, any_eqD x ds]
    rfl
theorem seen_fl {x : D} {m : Mem} {k : Nat} (h : fl k x = true) : seen x m = x := by
  cases x with
  | ref p => simp [fl] at h
  | _ => rfl
theorem od_inL (hu : X.A.units + 65 < cLine) : OpR X (compareOp .In) (low2 X.K (gInL fun b => b)) := opN fun pins s σ H G m dx dy x y v u q Q I rx ry hx hy hs hg hq => by
  obtain ⟨ds, e, f1, f2, k⟩ := hg
  have h1 := seen_rep hs hx
  have h2 := seen_rep hs hy
  rw [seen_fl f1] at h1
  rw [seen_lst e] at h2
  have f3 : fl 51 (.lst ds) = true := f2
  refine op_inD hu pins s σ H x y v u Q I rx ry ⟨_, toPs ds, h1.dp 50 f1, h2.dp 51 f3, fl_shaped f1 (by decide), fl_shaped f3 (by decide), ?_⟩
  rw [any_eqD]
  exact hq.here hs (.bl _) k
theorem od_notInL (hu : X.A.units + 65 < cLine) : OpR X (compareOp .NotIn) (low2 X.K (gInL fun b => !b)) := opN fun pins s σ H G m dx dy x y v u q Q I rx ry hx hy hs hg hq => by
  obtain ⟨ds, e, f1, f2, k⟩ := hg
  have h1 := seen_rep hs hx
  have h2 := seen_rep hs hy
  rw [seen_fl f1] at h1
  rw [seen_lst e] at h2
  have f3 : fl 51 (.lst ds) = true := f2
  refine op_notInD hu pins s σ H x y v u Q I rx ry ⟨_, toPs ds, h1.dp 50 f1, h2.dp 51 f3, fl_shaped f1 (by decide), fl_shaped f3 (by decide), ?_⟩
  rw [any_eqD]
  exact hq.here hs (.bl _) k
end
end DL

/-! DL34: a tuple is not unequal to itself; list(d) that may change; a, b = a list -/
namespace DL
open PySem PySem.Spec PyProof.Rows L2
section
variable {X : Cx} {W : WX} {pos : Pos}
def gNeS : G2 := fun x y m q => ∃ ds, x = .tup ds ∧ y = .tup ds ∧ thD 50 (.tup ds) = true ∧ q (.bl false) m
theorem odNeS (hu : X.A.units + 64 < cLine) : OpR X (compareOp .NotEq) (low2 X.K gNeS) := opN fun pins s σ H G m dx dy x y v u q Q I rx ry hx hy hs hg hq => by
  obtain ⟨ds, rfl, rfl, ht, k⟩ := hg
  cases hx with
  | tup e1 q1 =>
    cases hy with
    | tup e2 q2 =>
      cases rx
      cases ry
      have ht : thDs 49 ds = true := by simpa [thD] using ht
      obtain ⟨us, v1, t1, _⟩ := I.tuple (SqT.of (hs.sub _ _ e1))
      obtain ⟨ws, v2, t2, _⟩ := I.tuple (SqT.of (hs.sub _ _ e2))
      have l1 : us.length = ws.length := by rw [← v1.length, ← v2.length, ← q1.length, ← q2.length]
      have k2 := SeqAt.RcNeAt.tuples (A := X.A) (e := fun _ => true) t1 t2 (by omega) fun j h1 h2 => by
        have := same_all I (A := X.A.in1) (q1.mono hs.sub) (q2.mono hs.sub) ht v1 v2 (by show X.A.units + 1 + 49 < cLine; omega) j (by simpa using h1) (by simpa using h2)
        simpa using this
      rw [show ((List.range (min us.toArray.size ws.toArray.size)).all fun _ => true) = true from List.all_eq_true.mpr fun _ _ => rfl, show (us.toArray.size == ws.toArray.size) = true by simp [l1]] at k2
      exact k2 X.prog X.w _ _ ⟨.bl false, H, I, rfl, hq.here hs (.bl _) k⟩
/-- list(d), to be changed -/
def gKeysTO : List D → Mem → QD → Prop
  | [x], m, q => ∃ kvs, dctOf x m = some (true, kvs) ∧ ∀ p, m p = none → q (.ref p) (mset m p (.lst (kvs.map (·.1))))
  | _, _, _ => False
theorem cd_keysTO (hc : X.calm = true) : CallR X (.type "list") (lowC X.K gKeysTO) := crN (call_list_no hc) fun H G m ds vs q Q hr hs hg hq => by
  unfold gKeysTO at hg
  split at hg
  · obtain ⟨kvs, e, k⟩ := hg
    cases hr with
    | cons h r =>
      cases r
      obtain ⟨p, xs, rfl, hp, z, l, nd, rt⟩ := dctT_at hs h e
      exact ⟨p, xs, rfl, hp, z, l, fun l hl => hq _ _ _ _ _ (Same.refl _) (hs.alloc hl (.lst rt.keys)) (.ref l) (k l (hs.freeM hl))⟩
  · exact False.elim hg
/-- a, b = a list -/
def rAsgL (r : RE) (js : List Nat) : RS := fun xd e n m => r xd n m fun d m1 => ∃ ds, lstOf d m1 = some ds ∧ ds.length = js.length ∧ e.nx (setAll js ds n) m1
theorem ds_asgL {e : Expr} {re : RE} {es : List Expr} {k : Nat} {js : List Nat} {tpos : Pos} (hc : X.calm = true) (he : DE X W e re) (h : PGs X es (gNames js)) (hn : (assignEach es X.env).length = js.length := by rfl) (hst : (assignEach es X.env).findIdx? (·.1) = none := by rfl)
    (hs : swapsWithSole [.Tuple es k tpos] e pos.line X.env = pure false := by rfl) (hw : swappedStores [.Tuple es k tpos] e X.env = pure none := by rfl)
    (h1 : (assignEach [.Tuple es k tpos] X.env).map (·.2) = [assign (.Tuple es k tpos) X.env] := by rfl) : DS X W (.Assign [.Tuple es k tpos] e pos) (rAsgL re js) :=
  PS.imp (ps_asg he (pg_unl hc h hn hst) hs hw h1) fun D t H ⟨n, m, G, xd, e, hn, hs, hl, hr, L⟩ =>
    ⟨n, m, G, xd, _, hn, hs, hl, hr, fun d m1 v G1 H1 e1 s1 r1 ⟨ds, ed, hlen, k⟩ => by
      obtain ⟨p, vs, rfl, hp, ra⟩ := lst_at s1 r1 ed
      have hl2 : vs.length = js.length := by rw [← ra.length]; exact hlen
      exact ⟨p, vs, rfl, SqL.of hp, hl2, gNames_ok js _ t H1 _ hl2 (L.nx _ m1 _ G1 H1 e1 s1 (setAll_rep js ra (hn.mono e1)) k)⟩⟩
end
end DL

/-! DL35: what won't change any more, with all that is in it -/
namespace DL
open PySem PySem.Spec PyProof.Rows L2
mutual
/-- x with the objects ps of one's own in it, as it stands now -/
inductive Fz (m : Mem) (ps : List Addr) : D → D → Prop
  | keep (d : D) : Fz m ps d d
  | tup {ds es : List D} : Fzs m ps ds es → Fz m ps (.tup ds) (.tup es)
  | lst {ds es : List D} : Fzs m ps ds es → Fz m ps (.lst ds) (.lst es)
  | ref {p : Addr} {ds es : List D} : p ∈ ps → m p = some (.lst ds) → Fzs m ps ds es → Fz m ps (.ref p) (.lst es)
  | dct {p : Addr} {t : Bool} {ks ls : List (D × D)} : p ∈ ps → m p = some (.dct t ks) → FzK m ps ks ls → Fz m ps (.ref p) (.dct t ls)
inductive Fzs (m : Mem) (ps : List Addr) : List D → List D → Prop
  | nil : Fzs m ps [] []
  | cons {d e : D} {ds es : List D} : Fz m ps d e → Fzs m ps ds es → Fzs m ps (d :: ds) (e :: es)
inductive FzK (m : Mem) (ps : List Addr) : List (D × D) → List (D × D) → Prop
  | nil : FzK m ps [] []
  | cons {k d e : D} {ks ls : List (D × D)} : Fz m ps d e → FzK m ps ks ls → FzK m ps ((k, d) :: ks) ((k, e) :: ls)
end
/-- where the frozen stand now -/
structure FzH (m : Mem) (G' H : Hp) (ps : List Addr) : Prop where
  lst : ∀ p ∈ ps, ∀ {ds}, m p = some (.lst ds) → ∀ u, H p = some u → G' p = some u
  dT : ∀ p ∈ ps, ∀ {ks}, m p = some (.dct true ks) → ∀ u, H p = some u → G' p = some u
  dK : ∀ p ∈ ps, ∀ {ks}, m p = some (.dct false ks) → ∀ us, H p = some (.dK us) → ∃ od, G' p = some (.frz od (.dK us))
theorem fzh_of {m : Mem} {G' H H' : Hp} {ps qs : List Addr} (hq : ∀ q, q ∈ qs ↔ q ∈ ps ∧ ∃ kvs, m q = some (.dct false kvs)) (lk : LkD H H' qs) (h : ∀ p ∈ ps, m p ≠ none → G' p = H' p) : FzH m G' H ps :=
  ⟨fun p hp ds e u hu => by
    rw [h p hp (by rw [e]; simp), lk.2 p (fun z => by
      obtain ⟨_, kvs, w⟩ := (hq p).mp z
      rw [e] at w
      cases w)]
    exact hu, fun p hp ks e u hu => by
    rw [h p hp (by rw [e]; simp), lk.2 p (fun z => by
      obtain ⟨_, kvs, w⟩ := (hq p).mp z
      rw [e] at w
      cases w)]
    exact hu, fun p hp ks e us hu => by
    obtain ⟨od, us', a, c⟩ := lk.1 p ((hq p).mpr ⟨hp, _, e⟩)
    rw [hu] at a
    cases a
    exact ⟨od, by rw [h p hp (by rw [e]; simp)]; exact c⟩⟩
mutual
theorem fz_rep {K : PySem.W.Frag} {G G' H : Hp} {m : Mem} {ps : List Addr} (s : Sep K G m H) (e : Same G G') (h : FzH m G' H ps) : ∀ {x y : D}, Fz m ps x y → ∀ {v : V}, Rep K G x v → Rep K G' y v
  | _, _, .keep d, v, r => r.mono e
  | _, _, .tup f, v, r => by
    cases r with
    | tup a b => exact .tup (e _ _ a) (fzs_rep s e h f b)
  | _, _, .lst f, v, r => by
    cases r with
    | lst a b => exact .lst (e _ _ a) (fzs_rep s e h f b)
  | _, _, .ref (p := p) hp hm f, v, r => by
    cases r
    obtain ⟨u, hu, ro⟩ := s.own p _ hm
    cases ro with
    | lst rs => exact .lst (h.lst p hp hm _ hu) (fzs_rep s e h f rs)
  | _, _, .dct (p := p) hp hm f, v, r => by
    cases r
    obtain ⟨u, hu, ro⟩ := s.own p _ hm
    cases ro with
    | dK rs =>
      obtain ⟨od, hG⟩ := h.dK p hp hm _ hu
      exact .dK hG (fzk_repK s e h f rs)
    | dT z l n rs =>
      have hG := h.dT p hp hm _ hu
      obtain ⟨rt⟩ : Nonempty (RepT K G' _ _) := ⟨fzk_repT s e h f rs⟩
      exact .dT hG z l n rt
theorem fzs_rep {K : PySem.W.Frag} {G G' H : Hp} {m : Mem} {ps : List Addr} (s : Sep K G m H) (e : Same G G') (h : FzH m G' H ps) : ∀ {xs ys : List D}, Fzs m ps xs ys → ∀ {vs : List V}, Reps K G xs vs → Reps K G' ys vs
  | _, _, .nil, vs, r => by
    cases r
    exact .nil
  | _, _, .cons a b, vs, r => by
    cases r with
    | cons c d => exact .cons (fz_rep s e h a c) (fzs_rep s e h b d)
theorem fzk_repK {K : PySem.W.Frag} {G G' H : Hp} {m : Mem} {ps : List Addr} (s : Sep K G m H) (e : Same G G') (h : FzH m G' H ps) : ∀ {xs ys : List (D × D)}, FzK m ps xs ys → ∀ {us : List (Key × V)}, RepK K G xs us → RepK K G' ys us
  | _, _, .nil, us, r => by
    cases r
    exact .nil
  | _, _, .cons a b, us, r => by
    cases r with
    | cons k c d => exact .cons k (fz_rep s e h a c) (fzk_repK s e h b d)
theorem fzk_repT {K : PySem.W.Frag} {G G' H : Hp} {m : Mem} {ps : List Addr} (s : Sep K G m H) (e : Same G G') (h : FzH m G' H ps) : ∀ {xs ys : List (D × D)}, FzK m ps xs ys → ∀ {us : List (NestedKey × Addr × V)}, RepT K G xs us → RepT K G' ys us
  | _, _, .nil, us, r => by
    cases r
    exact .nil
  | _, _, .cons a b, us, r => by
    cases r with
    | cons k dep c c2 d => exact .cons k dep (c.mono e) (fz_rep s e h a c2) (fzk_repT s e h b d)
end
section
variable {X : Cx} {W : WX} {pos : Pos}
/-- an expression's value, frozen through and through -/
def rFzE (r : RE) : RE := fun xd n m q => r xd n m fun d m1 => ∃ ps d', Fz m1 ps d d' ∧ q d' (mdels m1 ps)
theorem de_fzE {e : Expr} {re : RE} (h : DE X W e re) : DE X W e (rFzE re) := PE.imp (pe_lk h) fun t H Q ⟨n, m, G, xd, q, hn, hs, hl, hr, hq⟩ =>
  ⟨n, m, G, xd, _, hn, hs, hl, hr, fun d m1 v G1 H1 e1 s1 r1 ⟨ps, d', f, k⟩ => by
    obtain ⟨qs, nd, hqs⟩ := dks_of m1 ps
    refine ⟨qs, nd, s1.dks fun q hq => ((hqs q).mp hq).2, fun H2 lk => ?_⟩
    obtain ⟨G2, e2, s2, h2⟩ := s1.locks (ps := ps) (fun q hq => (hqs q).mp hq) lk
    exact hq d' _ v G2 H2 (e1.trans e2) s2 (fz_rep s1 e2 (fzh_of hqs lk h2) f r1) k⟩
theorem RepN.put {K : PySem.W.Frag} {G G' : Hp} (e : Same G G') {d d' : D} (hd : ∀ v, Rep K G d v → Rep K G' d' v) : ∀ {r : Nv} {t : L2.St} {i : Nat}, RepN K G r t → r[i]? = some (some d) → RepN K G' (r.set i (some d')) t
  | _, _, _, .nil, h => by simp at h
  | _, _, 0, .yes a r, h => by
    simp at h
    subst h
    exact .yes (hd _ a) (r.mono e)
  | _, _, 0, .no r, h => by simp at h
  | _, _, i + 1, .yes a r, h => by
    simp at h
    exact .yes (a.mono e) (RepN.put e hd r h)
  | _, _, i + 1, .no r, h => by
    simp at h
    exact .no (RepN.put e hd r h)
/-- a name's value frozen through and through behind a statement -/
def rFzV (i : Nat) (r : RS) : RS := fun xd e n m => r xd { e with nx := fun n1 m1 => ∃ d ps d', n1[i]? = some (some d) ∧ Fz m1 ps d d' ∧ e.nx (n1.set i (some d')) (mdels m1 ps) } n m
theorem ds_fzV {s : Stmt} {r : RS} {i : Nat} (h : DS X W s r) : DS X W s (rFzV i r) := PS.imp (ps_lk h) fun D t H ⟨n, m, G, xd, e, hn, hs, hl, hr, L⟩ =>
  ⟨n, m, G, xd, _, hn, hs, hl, hr, ⟨fun n1 m1 t1 G1 H1 e1 s1 r1 ⟨d, ps, d', a, f, k⟩ => by
    obtain ⟨qs, nd, hqs⟩ := dks_of m1 ps
    refine ⟨qs, nd, s1.dks fun q hq => ((hqs q).mp hq).2, fun H2 lk => ?_⟩
    obtain ⟨G2, e2, s2, h2⟩ := s1.locks (ps := ps) (fun q hq => (hqs q).mp hq) lk
    exact L.nx _ _ _ _ H2 (e1.trans e2) s2 (r1.put e2 (fun v rv => fz_rep s1 e2 (fzh_of hqs lk h2) f rv) a) k, L.rt, L.bk, L.ct⟩⟩
end
end DL

/-! DL36: walks over the keys of a dict with tuple keys that won't change any more -/
namespace DL
open PySem PySem.Spec PyProof.Rows L2
section
variable {P : Program} {w : World} {K : PySem.W.Frag} {tg : Expr}
/-- what stands there now: as many entries as keys, the i-th with the i-th key's own tuple -/
theorem dno_now {H : Hp} {h : Heap} {p : Addr} {ep : Nat} {xs : List (NestedKey × Addr × V)} (hok : HOk P w H h) (hp : H p = some (dNo p ep xs)) :
    ∃ (o : Obj) (es : Array DictEntry), h.get? p = some o ∧ o.ExactDict ∧ o.data = .dict es ep ∧ es.size = xs.length ∧ ∀ (i : Nat) (y : NestedKey × Addr × V), xs[i]? = some y → ∃ en : DictEntry, es[i]? = some en ∧ en.key = Value.ref y.2.1 := by
  obtain ⟨⟨w', o, es, us, hv, ho, hx, hd, he⟩, _, _⟩ := hok p _ hp
  have hlen : xs.length = us.length := by rw [← hv.length, List.length_map]
  refine ⟨o, es, ho, hx, hd, ?_, fun i y e => ?_⟩
  · rw [← Array.length_toList, he, List.length_map, List.length_zip]
    omega
  · have hi : i < xs.length := (List.getElem?_eq_some_iff.mp e).1
    have e2 : us[i]? = some (us[i]'(by omega)) := List.getElem?_eq_getElem (by omega)
    refine ⟨⟨y.1.hash w', .ref y.2.1, us[i]'(by omega)⟩, ?_, rfl⟩
    rw [← Array.getElem?_toList, he, List.getElem?_map, List.getElem?_zip_eq_some.mpr (show xs[i]? = some (y, us[i]'(by omega)).1 ∧ us[i]? = some (y, us[i]'(by omega)).2 from ⟨e, e2⟩)]
    rfl
/-- the keys, one after another -/
def Itn (p : Addr) (ep : Nat) (xs : List (NestedKey × Addr × V)) : It :=
  ⟨fun i H => H p = some (dNo p ep xs) ∧ i < xs.length, fun i H x H' => H' = H ∧ ∃ y, xs[i]? = some y ∧ x = .ref y.2.1, fun i H => H p = some (dNo p ep xs) ∧ xs.length ≤ i⟩
theorem turn_no {p : Addr} {ep : Nat} {xs : List (NestedKey × Addr × V)} (it : Addr) : Turn P w K tg (Itn p ep xs) [it] it (fun i h => h.IsKeyIter it p i xs.length ep) where
  mem := by simp
  obj := fun i h st b hb => by
    have e : b = it := by simpa using hb
    subst e
    obtain ⟨oi, e, c, dd⟩ := st
    exact ⟨oi, e, fun v z => by rw [dd] at z; cases z⟩
  keep := fun i h h' st k => st.at fun oi e => k it (by simp) oi e
  item := by
    intro X hP hw hK hc i pins s σ H E I hf st hg
    subst hP hw hK
    obtain ⟨hd, hi⟩ := hg
    obtain ⟨f0, f1, f2, f3, f4, f5⟩ := hf it (by simp)
    obtain ⟨od, es, hgd, hx, hdt, hsz, ent⟩ := dno_now I.hok hd
    obtain ⟨y, hy⟩ : ∃ y, xs[i]? = some y := ⟨xs[i], List.getElem?_eq_getElem hi⟩
    obtain ⟨en, hen, hkey⟩ := ent i y hy
    refine next_key_item st hgd hdt hsz hen fun h' st' sb => ?_
    have I1 : Inv X pins σ H { s with heap := h' } := I.turned (t' := s.toks) (fun b ob hb e => (sb.2 b hb).trans e) f0 f1 f3 f4 f5
    obtain ⟨oi, e, c, dd⟩ := id st'
    exact ⟨en.key, rfl, go_of (s := { s with heap := h' }) e c dd (by decide) ⟨.ref y.2.1, H, I1, hkey, ⟨rfl, y, hy, rfl⟩, st', fun b hb => (hf b hb).1⟩⟩
  done := by
    intro X hP hw hK hc i pins s σ H E I hf st hg
    subst hP hw hK
    obtain ⟨hd, hi⟩ := hg
    obtain ⟨f0, f1, f2, f3, f4, f5⟩ := hf it (by simp)
    obtain ⟨od, es, hgd, hx, hdt, hsz, ent⟩ := dno_now I.hok hd
    exact next_key_end (I.ok.hd hc) st hgd hdt hsz hi fun h' eb => ⟨rfl, I.turned (t' := s.toks) (fun b ob hb e => eb b ob hb e) f0 f1 f3 f4 f5⟩
  self := fun A i s Q E st h => by
    refine wpAny_pyIter_slot st.typeIs F.slot_dict_keyiterator_iter (wpAny_call_entry F.slot_dict_keyiterator_iter st.typeIs F.entry_dict_keyiterator_iter ?_ (F.args_dict_keyiterator_iter_1 _))
    show wpAny _ _ (ret (.ref it)) _ _ s
    exact wpAny_pure ⟨_, rfl, "dict_keyiterator", _, st.typeIs, F.slot_dict_keyiterator_next.lookup, h⟩
end
section
variable {X : Cx} {W : WX} {tg e : Expr} {re : RE}
def iNo (td : TE) : TI := fun σ H R => td σ H fun x H1 => ∃ p ep xs, x = .ref p ∧ H1 p = some (dNo p ep xs) ∧ (p == sysModules) = false ∧ R (Itn p ep xs) H1
theorem pi_no {td : TE} (he : PE X e td) : PI X tg e (iNo td) := by
  refine ⟨fun pins s σ H R I h => ?_⟩
  refine thn (he.run pins s σ H _ I h) fun u s1 ⟨x, H1, I1, rx, p, ep, xs, ex, hp, hs, q⟩ => ?_
  subst ex
  obtain rfl : u = Value.ref p := rx
  obtain ⟨od, es, hgd, hx, hdt, hsz, _⟩ := dno_now I1.hok hp
  refine iter_keys hs hgd hx hdt (pi_one (tk := s1.toks) I1 _ (turn_no _) ⟨_, Heap.get?_push_size _ rfl, rfl, ?_⟩ q)
  rw [hsz] <;> rfl
theorem src_no {K : PySem.W.Frag} {G : Hp} {p : Addr} {ep : Nat} {kvs : List (D × D)} {xs : List (NestedKey × Addr × V)} (h : G p = some (dNo p ep xs)) (r : RepT K G kvs xs) : Src K G (Itn p ep xs) (kvs.map (·.1)) where
  go := fun i H m G' e s hi => ⟨s.sub _ _ (e _ _ h), by rw [← r.length]; simpa using hi⟩
  yld := fun i x H H' m G' e s hi y => by
    obtain ⟨rfl, y, e1, rfl⟩ := y
    have ry := r.keys
    obtain ⟨d, e2, r2⟩ := ry.getV (v := V.ref y.2.1) (i := i) (by rw [List.getElem?_map, e1]; rfl)
    exact ⟨G', d, e2, Same.refl _, s, r2.mono e⟩
  stop := fun H m G' e s => ⟨s.sub _ _ (e _ _ h), by rw [List.length_map, r.length]; exact Nat.le_refl _⟩
/-- for k in d: a dict with tuple keys that won't change; one that may change stays as it is from here on -/
def rInD (r : RE) : RI := fun xd n m q => r xd n m fun d m1 => match d with
  | .dct true kvs => q (kvs.map (·.1)) m1
  | .ref p => ∃ kvs, m1 p = some (.dct true kvs) ∧ q (kvs.map (·.1)) (mdel m1 p)
  | _ => False
theorem di_no (h : DE X W e re) : DI X W tg e (rInD re) := PI.imp (pi_no h) fun t H R ⟨n, m, G, xd, q, hn, hs, hl, hr, hq⟩ =>
  ⟨n, m, G, xd, _, hn, hs, hl, hr, fun d m1 v G1 H1 e1 s1 r1 k => by
    cases r1 with
    | dT e z l nd r => exact ⟨_, _, _, rfl, s1.sub _ _ e, z, hq _ m1 G1 H1 _ e1 s1 (src_no e r) k⟩
    | ref p =>
      obtain ⟨kvs, e, k⟩ := k
      obtain ⟨u, h1, r1⟩ := s1.own p _ e
      cases r1 with
      | dT z l nd r =>
        obtain ⟨s2, e2⟩ := s1.freeze e h1
        exact ⟨_, _, _, rfl, h1, z, hq _ _ _ H1 _ (e1.trans e2) s2 (src_no upd_same (r.mono e2)) k⟩
    | _ => exact False.elim k⟩
end
end DL

/-! DL37: a, b = x, y; the least of a list of ints; the shortest of a list of texts -/
namespace DL
open PySem PySem.Spec PyProof.Rows L2
section
variable {X : Cx} {W : WX} {pos : Pos} {e : Expr} {re : RE}
/-- a, b = x, y -/
def rPar (i j : Nat) (ra : RA) : RS := fun xd e n m => ra xd n m fun ds m1 => ∃ x y, ds = [x, y] ∧ e.nx ((n.set i (some x)).set j (some y)) m1
theorem ds_par {i j : Nat} {x y : Str} {a b : Expr} {ra : RA} {px py pt : Pos} {kt k2 pt2} (hc : X.calm = true) (hN : X.N.Nodup) (hi : X.N[i]? = some x) (hj : X.N[j]? = some y) (hij : i ≠ j)
    (hx : X.env.scope.names.lookup x = some .local) (hy : X.env.scope.names.lookup y = some .local) (ha : DA X W [a, b] ra)
    (hw : swappedStores [.Tuple [.Name x px, .Name y py] kt pt] (.Tuple [a, b] k2 pt2) X.env = pure (some [x, y]))
    (hs : swapsWithSole [.Tuple [.Name x px, .Name y py] kt pt] (.Tuple [a, b] k2 pt2) pos.line X.env = pure false := by rfl) :
    DS X W (.Assign [.Tuple [.Name x px, .Name y py] kt pt] (.Tuple [a, b] k2 pt2) pos) (rPar i j ra) :=
  PS.imp (ps_par hc hN hi hj hij hx hy ha hw hs) fun D t H ⟨n, m, G, xd, e, hn, hs, hl, hr, L⟩ =>
    ⟨n, m, G, xd, _, hn, hs, hl, hr, fun ds m1 vs G1 H1 e1 s1 r1 ⟨x, y, ed, k⟩ => by
      subst ed
      cases r1 with
      | cons h r =>
        cases r with
        | cons h2 r2 =>
          cases r2
          exact ⟨_, _, rfl, L.nx _ m1 _ G1 H1 e1 s1 (((hn.mono e1).set h i).set h2 j) k⟩⟩
/-- min(xs) of a list of ints -/
def gMinL : List D → Mem → QD → Prop
  | [x], m, q => ∃ ns : List Int, lstOf x m = some (ns.map D.int) ∧ 0 < ns.length ∧ ∀ k, k ∈ ns → (∀ y, y ∈ ns → k ≤ y) → q (.int k) m
  | _, _, _ => False
theorem cd_minL (hc : X.calm = true) : CallR X (.builtin "min") (lowC X.K gMinL) := crN (cr_min hc) fun H G m ds vs q Q hr hs hg hq => by
  unfold gMinL at hg
  split at hg
  · obtain ⟨ns, e, h0, k⟩ := hg
    cases hr with
    | cons h r =>
      cases r
      obtain ⟨p, vs, rfl, hp, ra⟩ := lst_at hs h e
      have ev := ints_rep ra rfl
      subst ev
      exact ⟨p, ns, rfl, SqL.of hp, h0, fun n h1 h2 => hq.here hs (.int _) (k n h1 h2)⟩
  · exact False.elim hg
/-! ### min(xs, key=len) -/
theorem vals_strs : ∀ {ss : List (List Nat)} {us : List Value}, Vals (ss.map fun z => V.str ⟨z.toArray⟩) us → ∀ {i : Nat} {u : Value}, us[i]? = some u → ∃ z t, ss[i]? = some z ∧ u = .str ⟨z.toArray⟩ t
  | [], _, r, i, u, e => by
    cases r
    simp at e
  | z :: ss, _, r, i, u, e => by
    cases r with
    | cons a b =>
      obtain ⟨t, rfl⟩ := a
      cases i with
      | zero =>
        simp at e
        exact ⟨z, t, rfl, e.symm⟩
      | succ i =>
        obtain ⟨z', t', h1, h2⟩ := vals_strs b (i := i) (u := u) (by simpa using e)
        exact ⟨z', t', by simpa using h1, h2⟩
theorem min_len {pins : List (Addr × Obj)} {σ : L2.St} {H : Hp} {s : Shared} {p : Addr} {ss : List (List Nat)} {Q : VK} (hc : X.calm = true) (I : Inv X pins σ H s) (hp : SqL X.K H p (ss.map fun z => V.str ⟨z.toArray⟩)) (h0 : 0 < ss.length) (hz : ∀ z ∈ ss, z.length ≤ sizeLine)
    (q : ∀ z ∈ ss, (∀ y ∈ ss, z.length ≤ y.length) → Q (.str ⟨z.toArray⟩) H) : wpAny (model X.prog X.w) X.A (call (.builtin "min") [.ref p] [(Str.ofString "key", .builtin "len")]) (EP X pins σ Q) X.xe s := by
  obtain ⟨its, rv, hl, _⟩ := I.list hp
  have hlen : its.length = ss.length := by rw [← rv.length, List.length_map]
  have h63 := line63
  obtain ⟨ol, hol, _⟩ := id hl.isList
  have hlp : p < s.heap.objs.size := Heap.lt_size hol
  refine PySem.call_min_walkKB (wpAny_pyIter_list hl.isList ?_)
  have Wk := (Walks.list (prog := X.prog) (w := X.w) (A := X.A.in1) (I.ok.hd hc) s.heap.objs.size p (Nat.ne_of_lt hlp) its.toArray).toS
  refine ⟨s.heap.objs.size, _, _, _, _, _, _, fun s' => (∀ b o, s.heap.get? b = some o → s'.heap.get? b = some o) ∧ s'.gens = s.gens ∧ s'.drawn = s.drawn ∧ s'.os = s.os, fun i k _ => ∃ t, k = .int ((ss.getD i []).length : Int) t, fun i j => decide (((ss.getD i []).length : Int) < ((ss.getD j []).length : Int)), rfl, Wk, ⟨⟨_, Heap.get?_push_size _ rfl, rfl, rfl⟩, hl.isList.at fun o e => Heap.get?_push_of_some _ e⟩, ?_, ?_, ?_, ?_, ?_⟩
  · intro b hb
    rcases List.mem_cons.mp hb with h | h
    · rw [h]
      show _ < (s.heap.push _).objs.size
      rw [size_push']
      exact Nat.lt_succ_self _
    · rw [List.mem_singleton.mp h]
      show _ < (s.heap.push _).objs.size
      rw [size_push']
      exact Nat.lt_succ_of_lt hlp
  · simpa [hlen] using h0
  · refine ⟨fun s1 s2 ⟨j1, j2, j3, j4⟩ mv => ⟨fun b o e => ?_, mv.gens.trans j2, mv.drawn.trans j3, mv.os.trans j4⟩, fun i k s1 s2 h _ => h, fun i v s1 o Q' E' hi hP hJ hSt hS hQ' => ?_, fun i j ki kj s1 Q' E' hJ h1 h2 hQ' => ?_⟩
    · refine mv.heap b o ?_ (j1 b o e)
      have hb : b < s.heap.objs.size := Heap.lt_size e
      simp only [List.mem_cons, List.not_mem_nil, or_false, not_or]
      refine ⟨?_, Nat.ne_of_lt hb⟩
      show b ≠ (s.heap.push _).objs.size
      rw [size_push']
      exact Nat.ne_of_lt (Nat.lt_succ_of_lt hb)
    · have hv : its[i]? = some v := by simpa using hP
      obtain ⟨z, t, hz1, rfl⟩ := vals_strs rv hv
      have hzl := hz z (List.mem_of_getElem? hz1)
      refine len_str (by rw [str_len]; omega) (hQ' _ _ ?_ ?_ ?_ ?_ ?_)
      · exact hJ
      · exact hSt
      · exact hS
      · refine ⟨s1.toks + 1, ?_⟩
        rw [List.getD_eq_getElem?_getD, hz1, str_len]
        rfl
      · exact fun j k' h => h
    · exact CmpOf.ints_lt (prog := X.prog) (w := X.w) (A := X.A.in1) (P := fun i v => ∃ t, v = .int ((ss.getD i []).length : Int) t) (fun i => ((ss.getD i []).length : Int)) (fun i v h => h) i j _ _ _ _ _ h1 h2 hQ'
  · exact ⟨fun b o e => Heap.get?_push_of_some _ e, rfl, rfl, rfl⟩
  · intro v s' hP ⟨j1, j2, j3, j4⟩
    have hv : its[argBest (fun i j => decide (((ss.getD i []).length : Int) < ((ss.getD j []).length : Int))) (its.toArray.size - 1)]? = some v := by rw [← hP]; simp only [List.getElem?_toArray]
    obtain ⟨z, t, hz1, rfl⟩ := vals_strs rv hv
    obtain ⟨b1, b2⟩ := argBest_lt (fun i => ((ss.getD i []).length : Int)) (its.toArray.size - 1)
    have es : s' = { s with heap := s'.heap, toks := s'.toks } := by
      cases s'
      cases s
      simp_all
    rw [es]
    refine ⟨.str ⟨z.toArray⟩, H, I.kept j1, ⟨t, rfl⟩, q z (List.mem_of_getElem? hz1) fun y hy => ?_⟩
    obtain ⟨j, hj, ej⟩ := List.getElem_of_mem hy
    have := b2 j (by simp [hlen]; omega)
    rw [List.getD_eq_getElem?_getD, hz1] at this
    rw [List.getD_eq_getElem?_getD, List.getElem?_eq_getElem hj] at this
    simp only [Option.getD_some, ej] at this
    omega
def rMinLen (r : RE) : RE := fun xd n m q => r xd n m fun d m1 => ∃ ss : List (List Nat), lstOf d m1 = some (ss.map D.str) ∧ 0 < ss.length ∧ (∀ z ∈ ss, z.length ≤ sizeLine) ∧ ∀ z ∈ ss, (∀ y ∈ ss, z.length ≤ y.length) → q (.str z) m1
theorem de_minLen {p p2 kp : Pos} (hc : X.calm = true) (hg : Gl X "min") (hm : X.mg "min" = none) (hg2 : Gl X "len") (hm2 : X.mg "len" = none) (h : DE X W e re)
    (he : backTo pos (starEach [e] X.env) = (false, eval e X.env) :: backTo pos (starEach [] X.env) := by rfl) (hpl : (backTo pos (starEach [e] X.env)).any (·.1) = false := by rfl) (hse : starEach [e] X.env = (false, eval e X.env) :: starEach [] X.env := by rfl) :
    DE X W (.Call (.Name "min" p) [e] [⟨some "key", .Name "len" p2, kp⟩] pos) (rMinLen re) := by
  refine ⟨fun pins s σ H Q I ⟨n, m, G, xd, q, hn, hs, hl, hr, hq⟩ => ?_⟩
  refine wpAny_Call_Name_kw (ld_blt I hg hm rfl ?_)
  refine PyProof.Rows.callWith_kw (thn ((pa_cons (hs := hse) h pa_nil).run pos pins s σ H (fun vs H1 => ∃ d m1 v G1, vs = [v] ∧ Same G G1 ∧ Sep X.K G1 m1 H1 ∧ Rep X.K G1 d v ∧ ∃ ss : List (List Nat), lstOf d m1 = some (ss.map D.str) ∧ 0 < ss.length ∧ (∀ z ∈ ss, z.length ≤ sizeLine) ∧ ∀ z ∈ ss, (∀ y ∈ ss, z.length ≤ y.length) → q (.str z) m1) I
    ⟨n, m, G, xd, _, hn, hs, hl, hr, fun d m1 v G1 H1 e1 s1 r1 k => ⟨d, m1, v, G1, rfl, e1, s1, r1, k⟩⟩) fun us s1 ⟨vs, H1, I1, r1, d, m1, v, G1, ev, e1, sp, rd, ss, el, h0, hz, k⟩ => ?_) he hpl
  subst ev
  obtain ⟨pl, vs, rfl, hp, ra⟩ := lst_at sp rd el
  have evs := Reps.strs ra
  subst evs
  obtain rfl := Vals.ref1 r1
  show wpAny _ _ (evalAll [(do let v ← eval (.Name "len" p2) X.env; standAt pos; pure v)]) _ _ s1
  refine wpAny_evalAll_cons (wpAny_bind (ld_blt I1 hg2 hm2 rfl (wpAny_bind (wpAny_standAt (wpAny_pure (wpAny_evalAll_nil ?_))))))
  show wpAny _ _ (call (.builtin "min") [.ref pl] [(Str.ofString "key", .builtin "len")]) _ _ s1
  refine min_len hc I1 (SqL.of hp) h0 hz fun z h1 h2 => hq _ m1 _ G1 H1 e1 sp (.str z) (k z h1 h2)
end
end DL

/-! DL38: a dict that won't change any more -/
namespace DL
open PySem PySem.Spec PyProof.Rows L2
def gFrzD : D → Mem → QD → Prop
  | .ref p, m, q => ∃ t kvs, m p = some (.dct t kvs) ∧ q (.dct t kvs) (mdel m p)
  | d, m, q => q d m
def rFrzD (r : RE) : RE := fun xd n m q => r xd n m fun d m1 => gFrzD d m1 q
theorem no_lk {H1 H2 : Hp} (lk : LkD H1 H2 []) : H2 = H1 := by
  funext b
  exact lk.2 b (by simp)
theorem de_frzD {X : Cx} {W : WX} {e : Expr} {re : RE} (h : DE X W e re) : DE X W e (rFrzD re) := PE.imp (pe_lk h) fun t H Q ⟨n, m, G, xd, q, hn, hs, hl, hr, hq⟩ =>
  ⟨n, m, G, xd, _, hn, hs, hl, hr, fun d m1 v G1 H1 e1 s1 r1 k => by
    have keep : q d m1 → ∃ ps : List Addr, ps.Nodup ∧ (∀ p ∈ ps, ∃ us, H1 p = some (.dK us)) ∧ ∀ H2, LkD H1 H2 ps → Q v H2 := fun k => ⟨[], by simp, fun p hp => (nomatch hp), fun H2 lk => by
      rw [no_lk lk]
      exact hq d m1 v G1 H1 e1 s1 r1 k⟩
    cases d with
    | ref p =>
      obtain ⟨t, kvs, e, k⟩ := k
      cases r1
      obtain ⟨u, h1, r1⟩ := s1.own p _ e
      cases r1 with
      | dK r =>
        refine ⟨[p], by simp, fun q hq => by rw [List.mem_singleton.mp hq]; exact ⟨_, h1⟩, fun H3 lk => ?_⟩
        obtain ⟨G3, e3, s3, h3⟩ := s1.locks (ps := [p]) (fun q hq => ⟨hq, (by rw [List.mem_singleton.mp hq]; exact ⟨_, e⟩)⟩) lk
        obtain ⟨od, us, a, c⟩ := lk.1 p List.mem_cons_self
        rw [h1] at a
        cases a
        rw [mdels_one'] at s3
        exact hq _ _ _ _ H3 (e1.trans e3) s3 (.dK ((h3 p List.mem_cons_self (by rw [e]; simp)).trans c) (r.mono e3)) k
      | dT z l nd r =>
        obtain ⟨s2, e2⟩ := s1.freeze e h1
        refine ⟨[], by simp, fun p hp => (nomatch hp), fun H2 lk => ?_⟩
        rw [no_lk lk]
        exact hq _ _ _ _ H1 (e1.trans e2) s2 (.dT upd_same z l nd (r.mono e2)) k
    | _ => exact keep k⟩
end DL

/-! DL39: {k: v for ..} with tuples as keys -/
namespace DL
open PySem PySem.Spec PyProof.Rows L2
/-- one turn of a comprehension's clause, whatever the comprehension is -/
def turnE (e : Expr) (d : Nat) (ip : Pos) (tg : Expr) (ifs : List Expr) (it acc : Value) (env : Env) (body : Sem Unit) : Sem PySem.Fin := do
  standAt ip
  match ← pyNext it with
  | none => pure (.done .next)
  | some v =>
    letOwnedTupleGo tg it v
    assign tg env v
    let mut ok := true
    for c in ifs do
      if ok then ok ← isTrue c env (eval c env)
    if ok then body
    again (.compLoop e d it acc env)
theorem loopE {kx vx tg : Expr} {gens : List Comprehension} {scope : Scope} {pos : Pos} {ifs : List Expr} {d : Nat} {prog : Program} {w : World} {A : Around} {R : Result → Shared → Prop} {s : Shared} {it acc : Value} {env : Env} {ip : Pos} {body : Sem Unit} (hT : compTurn (.DictComp kx vx gens scope pos) d it acc env = turnE (.DictComp kx vx gens scope pos) d ip tg ifs it acc env body) (I : Nat → Shared → Prop)
    (turn : ∀ n s, I n s → wpAny (model prog w) A (pyNext it) (fun r s1 => match r with
      | none => R (.ok .next) s1
      | some v => wpAny (model prog w) A (letOwnedTupleGo tg it v) (fun _ s2 => wpAny (model prog w) A (assign tg env v) (fun _ s3 =>
          wpAny (model prog w) A (forIn ifs true fun c r => if r = true then do let ok ← isTrue c env (eval c env); pure (ForInStep.yield ok) else pure (ForInStep.yield r)) (fun ok s4 =>
            if ok = true then wpAny (model prog w) A body (fun _ s5 => ∃ m, m < n ∧ I m s5) (fun _ _ => False) s4 else ∃ m, m < n ∧ I m s4) (fun _ _ => False) s3) (fun _ _ => False) s2) (fun _ _ => False) s1) (fun _ _ => False) s)
    (n : Nat) (h : I n s) : codeAny (model prog w) A (.compLoop (.DictComp kx vx gens scope pos) d it acc env) R s := by
  refine codeAny_loop rfl I (fun n s hI => ?_) n h
  show wpAny _ A ((compTurn (.DictComp kx vx gens scope pos) d it acc env).onRaise (fun x => do noteFrame x env; theTreesLotGoes x)) _ _ s
  refine wpAny_noted ?_
  rw [hT]
  unfold turnE
  refine wpAny_bind (wpAny_standAt (wpAny_bind (thnF (turn n s hI) fun r s1 h1 => ?_)))
  cases r with
  | none => exact wpAny_pure h1
  | some v =>
    refine wpAny_bind (thnF h1 fun _ s2 h2 => wpAny_bind (thnF h2 fun _ s3 h3 => wpAny_bind (thnF h3 fun ok s4 h4 => ?_)))
    cases ok with
    | false => exact wpAny_pure ⟨rfl, h4⟩
    | true => exact wpAny_bind (thnF h4 fun _ s5 h5 => wpAny_pure ⟨rfl, h5⟩)
section
variable {X : Cx} {kx vx iter tg : Expr} {rest : List Comprehension} {ifs : List Expr} {scope : Scope} {own : List (Str × Nat)} {pos : Pos}
/-- {..}: the clause; tb D: what stands behind it, D the new dict -/
def tDcG (wi : TI) (g : TG) (tt : TT) (tb : Addr → TB) (vs : List Nat) : TE := fun σ H Q => wi σ H fun J H1 => ∀ D, H1 D = none → (D == sysModules) = false → ∃ V : Nat → Nat → Hp → Prop, (∃ m, V 0 m (upd H1 D (dNo D 0 []))) ∧ ∀ i m H, V i m H →
  (J.stop i H ∧ Q (.ref D) H) ∨ (J.go i H ∧ ∃ M : Hp → Prop, (∀ H', M H' → ∃ m', m' < m ∧ V (i + 1) m' H') ∧ ∀ x H', J.yld i H x H' → g x (wipe σ vs) H' fun σ2 H2 => wipe σ2 vs = wipe σ vs ∧ tt σ2 H2 fun b H3 => if b = true then tb D σ2 H3 M else M H3)
theorem pe_dcG {wi : TI} {g : TG} {tt : TT} {tb : Addr → TB} {ws : List Nat} {body : Addr → Env → Sem Unit} (hc : X.calm = true) (hN : X.N.Nodup) (hi : PI X tg iter wi) (ok : BlkOk X.N X.env.scope scope own)
    (hT : ∀ D it env, compTurn (.DictComp kx vx (⟨tg, iter, ifs, 0⟩ :: rest) scope pos) 0 it (.ref D) env = turnE (.DictComp kx vx (⟨tg, iter, ifs, 0⟩ :: rest) scope pos) 0 iter.pos tg ifs it (.ref D) env (body D env))
    (hg : ∀ (s : Shared) (H : Hp) (C : Addr) (cl : List (Str × Addr)) (fp : List Addr), PG (X.blk s H scope (compEnvC scope cl C X.env) fp) tg g) (ht : ∀ (s : Shared) (H : Hp) (C : Addr) (cl : List (Str × Addr)) (fp : List Addr), PTs (X.blk s H scope (compEnvC scope cl C X.env) fp) ifs tt)
    (hb : ∀ (D : Addr) (s : Shared) (H : Hp) (C : Addr) (cl : List (Str × Addr)) (fp : List Addr), PB (X.blk s H scope (compEnvC scope cl C X.env) fp) (body D (compEnvC scope cl C X.env)) ws (tb D)) (hin : ∀ j ∈ ws, j ∈ own.map (·.2))
    (hs : ∀ x, foldedSetIterable iter X.env x = pure x := by intro _; rfl) : PE X (.DictComp kx vx (⟨tg, iter, ifs, 0⟩ :: rest) scope pos) (tDcG wi g tt tb (own.map (·.2))) := by
  refine ⟨fun pins s σ H Q I h => ?_⟩
  rw [arm_eval_DictComp]
  have hfree : ∀ y ∈ scope.names, y.2 = .free → ∃ c, X.env.cells.lookup y.1 = some c := fun y hy e => (ok.free y hy e).elim (fun k => I.ok.has _ (.inl k)) fun k => I.ok.has _ (.inr k)
  refine wpAny_comprehension_free (use := none) rfl hs (closure_ok hfree) ok.kind (fun y hy e => by rw [ok.uniq y hy, e]) (thn (hi.run pins s σ H _ I h) fun xv s1 hx => thn hx fun itv s2 h2 => ?_)
  obtain ⟨it, fp, tn, J, H2, e, I2, T, st2, f2, q⟩ := h2
  subst e
  refine wpAny_newObj_type (newEnv_comp ?_)
  generalize hD : s2.heap.objs.size = D
  obtain ⟨V, ⟨m0, v0⟩, turn⟩ := q D (I2.hok.fresh (Nat.le_of_eq hD)) (beq_eq_false_iff_ne.mpr (Ne.symm (Nat.ne_of_lt (by rw [← hD]; exact I2.big))))
  generalize hs3 : ({ s2 with heap := s2.heap.push { cls := .type "dict", data := .dict #[] } } : Shared) = s3
  have h3 : s3.heap = s2.heap.push { cls := .type "dict", data := .dict #[] } := by rw [← hs3]
  have I3 : Inv X pins σ (upd H2 D (dNo D 0 [])) s3 := by
    rw [← hs3]
    exact I2.laid (t' := s2.toks) (fun b o e => Heap.get?_push_of_some _ e) (Nat.le_of_eq hD) (dno_ok (w' := X.w) (us := []) .nil ⟨_, #[], by rw [← hD]; exact Heap.get?_push_size _ rfl, ⟨rfl, rfl, rfl⟩, rfl, rfl⟩)
  have f3 : ∀ b ∈ fp, FpOk X pins (upd H2 D (dNo D 0 [])) b ∧ b < s3.heap.objs.size := fun b hb => by
    obtain ⟨o, eo, _⟩ := T.obj _ _ st2 b hb
    have hlt := Heap.lt_size eo
    refine ⟨⟨?_, (f2 b hb).2⟩, by rw [h3, Heap.size_push]; exact Nat.lt_succ_of_lt hlt⟩
    rw [upd_ne (show b ≠ D by rw [← hD]; exact Nat.ne_of_lt hlt)]
    exact (f2 b hb).1
  have st3 : tn 0 s3.heap := T.keep _ _ _ st2 fun b _ o e => by rw [h3]; exact Heap.get?_push_of_some _ e
  have I4 := block_start I3 ok hN f3
  have pg := hg s3 (upd H2 D (dNo D 0 [])) s3.heap.objs.size (cellsFrom (s3.heap.objs.size + 1) scope.names (cloFrom X.env.cells scope.names [])) fp
  have pt := ht s3 (upd H2 D (dNo D 0 [])) s3.heap.objs.size (cellsFrom (s3.heap.objs.size + 1) scope.names (cloFrom X.env.cells scope.names [])) fp
  have pb := hb D s3 (upd H2 D (dNo D 0 [])) s3.heap.objs.size (cellsFrom (s3.heap.objs.size + 1) scope.names (cloFrom X.env.cells scope.names [])) fp
  show codeAny _ _ (.compStart (.DictComp kx vx (⟨tg, iter, ifs, 0⟩ :: rest) scope pos) 0 (.ref it) (.ref D) (compEnvC scope (cellsFrom (s3.heap.objs.size + 1) scope.names (cloFrom X.env.cells scope.names [])) s3.heap.objs.size X.env)) (compPost (model X.prog X.w) X.A X.xe none _ (.ref D) s3.heap.objs.size) { s3 with heap := pushCells (s3.heap.push { cls := .type "dict", data := .dict #[] }) scope.names }
  have nfp : ∀ b ∈ fp, (upd H2 D (dNo D 0 [])) b = none := fun b hb => (f3 b hb).1.1
  generalize hce : compEnvC scope (cellsFrom (s3.heap.objs.size + 1) scope.names (cloFrom X.env.cells scope.names [])) s3.heap.objs.size X.env = ce at I4 pg pt pb ⊢
  have cL : ce.locals = s3.heap.objs.size := by rw [← hce]; rfl
  generalize hH3 : upd H2 D (dNo D 0 []) = H3 at I3 I4 pg pt pb v0 nfp f3
  generalize hs4 : ({ s3 with heap := pushCells (s3.heap.push { cls := .type "dict", data := .dict #[] }) scope.names } : Shared) = s4 at I4 ⊢
  have st4 : tn 0 s4.heap := T.keep _ _ _ st3 fun b _ o e => by rw [← hs4]; exact pushCells_keeps _ _ _ _ (Heap.get?_push_of_some _ e)
  have stat : ∀ {σ' : L2.St} {H' : Hp} {s' : Shared}, Inv (X.blk s3 H3 scope ce fp) [] σ' H' s' → (∀ b ∈ fp, H' b = none) → ∀ b ∈ fp, FpOk (X.blk s3 H3 scope ce fp) [] H' b := fun {σ' H' s'} I' hn b hb =>
    ⟨hn b hb, (I'.ok.exf b hb).1, I'.ok.exfs b hb, .inl hb, fun x c e => (I'.ok.exf b hb).2 x c e, fun p hp => absurd (show p ∈ ([] : List (Addr × Obj)) ++ [] from hp) (by simp)⟩
  have loop : codeAny (model X.prog X.w) X.A (.compLoop (.DictComp kx vx (⟨tg, iter, ifs, 0⟩ :: rest) scope pos) 0 (.ref it) (.ref D) ce) (compPost (model X.prog X.w) X.A X.xe none (EP X pins σ Q) (.ref D) s3.heap.objs.size) s4 := by
    refine loopE (hT D _ ce) (fun k s' => ∃ j H', Inv (X.blk s3 H3 scope ce fp) [] (wipe σ (own.map (·.2))) H' s' ∧ tn j s'.heap ∧ (∀ b ∈ fp, H' b = none) ∧ V j k H') ?_ m0 ⟨0, H3, I4, st4, nfp, v0⟩
    rintro k s5 ⟨j, H5, I5, st5, n5, v5⟩
    rcases turn j k H5 v5 with ⟨stop, qq⟩ | ⟨go, M, hM, step⟩
    · refine thnF (T.done (X.blk s3 H3 scope ce fp) rfl rfl rfl hc j [] s5 _ H5 (fun _ _ => False) I5 (stat I5 n5) st5 stop) fun r s6 ⟨hr, I6⟩ => ?_
      subst hr
      have I7 : Inv X pins σ H5 s6 := I3.call' (ch := fp) I6.os I6.base I6.hok I6.bare fun b hb => ⟨(f3 b hb).1.2.2.2.1, (f3 b hb).1.2.1, (f3 b hb).1.2.2.2.2.1, (f3 b hb).1.2.2.2.2.2⟩
      have nC : H5 s3.heap.objs.size = none := by
        rw [← cL]
        exact I6.free
      obtain ⟨mm, hn, _⟩ := I6.loc
      have hn : s6.heap.Ns ce.locals mm := hn
      rw [cL] at hn
      obtain ⟨g0, g1, g2, g3, g4, g5⟩ := I3.fpOk (Nat.le_refl _) nC
      exact ⟨mm, hn, fun h'' sb => ⟨.ref D, H5, I7.turned (t' := s6.toks) (fun b o hb e => (sb.2 b hb).trans e) g0 g1 g3 g4 g5, rfl, qq⟩⟩
    · refine thnF (T.item (X.blk s3 H3 scope ce fp) rfl rfl rfl hc j [] s5 _ H5 (fun _ _ => False) I5 (stat I5 n5) st5 go) fun r s6 ⟨u, hr, h6⟩ => ?_
      subst hr
      refine thnF h6 fun _ s7 ⟨x, H7, I7, r7, y7, st7, n7⟩ => ?_
      have I7' := I7.pinned (stat I7 n7) (T.obj _ _ st7)
      refine thnF (pg.run _ s7 _ H7 x u _ I7' r7 (step x H7 y7)) fun _ s8 ⟨σ8, H8, I8, w8, q8⟩ => ?_
      refine thnF (pt.run _ s8 σ8 H8 _ I8 q8) fun b s9 ⟨H9, I9, q9⟩ => ?_
      have fin : ∀ {σ' : L2.St} {s' : Shared} {H' : Hp}, Inv (X.blk s3 H3 scope ce fp) ([] ++ pinsAt fp s7.heap) σ' H' s' → wipe σ' ws = wipe σ8 ws → M H' → ∃ m, m < k ∧ ∃ j H', Inv (X.blk s3 H3 scope ce fp) [] (wipe σ (own.map (·.2))) H' s' ∧ tn j s'.heap ∧ (∀ b ∈ fp, H' b = none) ∧ V j m H' := fun {σ' s' H'} I' hw nx => by
        obtain ⟨k', hk, v'⟩ := hM H' nx
        obtain ⟨l, kp⟩ := wipe_in w8 hw hin
        have pin : ∀ b ∈ fp, ∀ o, s7.heap.get? b = some o → s'.heap.get? b = some o ∧ H' b = none := fun b hb o e => by
          have z := I'.pin (b, o) (List.mem_append_right _ (List.mem_append_right _ (mem_pinsAt hb e)))
          exact ⟨z.1, z.2.1⟩
        refine ⟨k', hk, j + 1, H', (I'.unpinned (pins := [])).weak l kp, T.keep _ _ _ st7 fun b hb o e => (pin b hb o e).1, fun b hb => ?_, v'⟩
        obtain ⟨o, e, _⟩ := T.obj _ _ st7 b hb
        exact (pin b hb o e).2
      cases b with
      | false =>
        simp only [Bool.false_eq_true, if_false] at q9 ⊢
        exact fin I9 rfl q9
      | true =>
        simp only [if_true] at q9 ⊢
        exact thnF (pb _ s9 σ8 H9 M I9 q9) fun _ s10 ⟨σ10, H10, I10, w10, n10⟩ => fin I10 w10 n10
  exact codeAny_compStart_dict loop (T.self X.A 0 _ _ _ st4 loop)


/-- what is put in: a key and its value -/
def putB (kx vx : Expr) (D : Addr) (env : Env) : Sem Unit := do
  let x ← eval kx env
  let y ← holding [x] (eval vx env)
  standAt { line := kx.pos.line, col := kx.pos.col, endLine := vx.pos.endLine, endCol := vx.pos.endCol }
  holding [x, y] (dictSet D x y)
theorem turn_dc {t0 i0 : Expr} {f0 : List Expr} {D : Addr} {it : Value} {env : Env} : compTurn (.DictComp kx vx [⟨t0, i0, f0, 0⟩] scope pos) 0 it (.ref D) env = turnE (.DictComp kx vx [⟨t0, i0, f0, 0⟩] scope pos) 0 i0.pos t0 f0 it (.ref D) env (putB kx vx D env) := by
  unfold compTurn turnE putB
  simp
  rfl
def tPutT (K : PySem.W.Frag) (D : Addr) (tk tv : TE) : TB := fun σ H N => tk σ H fun i H1 => tv σ H1 fun v H2 => ∃ a ds xs kvs k, i = .ref a ∧ (∃ ep, H2 D = some (dNo D ep xs)) ∧ RepT K H2 kvs xs ∧ (xs.map (·.1)).Nodup ∧ xs.length < sizeLine ∧ nkOf (.tup ds) = some k ∧ k.depth ≤ 8 ∧ Rep K H2 (.tup ds) (.ref a) ∧ getT kvs k = none ∧ ∀ ep, N (upd H2 D (dNo D ep (xs ++ [(k, a, v)])))
theorem pb_putT {D : Addr} {tk tv : TE} (hu : X.A.units + 64 < cLine) (hxe : X.xe = fun _ _ => False) (hk : PE X kx tk) (hv : PE X vx tv) : PB X (putB kx vx D X.env) [] (tPutT X.K D tk tv) := fun pins s σ H N I h => by
  unfold putB
  refine wpAny_bind (thnX hxe (hk.run pins s σ H _ I h) fun z s1 ⟨i, H1, I1, r1, h1⟩ => wpAny_bind (wpAny_holding (thnX hxe (hv.run pins s1 σ H1 _ I1 h1) fun y s2 ⟨v, H2, I2, r2, h2⟩ => wpAny_bind (wpAny_standAt (wpAny_holding ?_)))))
  obtain ⟨a, ds, xs, kvs, k, rfl, ⟨ep0, hp⟩, rt, nd, hz, ek, hd, ra, hn, q⟩ := h2
  cases r1
  obtain ⟨us, hv, hD⟩ := keyed_at I2 hp rt nd
  have hk' : (nestedKind X.prog X.w).is s2.heap k a := ⟨nk_is I2 ra rfl ek, hd⟩
  have hno : atKey (zipT xs us) k = none := by
    rcases getT_at (k := k) rt hv with ⟨_, h2⟩ | ⟨_, _, _, _, h1, _⟩
    · exact h2
    · rw [hn] at h1
      cases h1
  have hl : (zipT xs us).length ≤ sizeLine := by
    unfold zipT
    rw [List.length_map, List.length_zip]
    omega
  refine wpAny_dictSet_heap (show X.A.units + 8 < cLine by omega) hk' hD (fun h' hD' hsb => ?_) hl
  rw [storedH_new hno, zipT_snoc (x := (k, a, v)) hv] at hD'
  obtain ⟨o', es, ep, ho, hx, hdt, he, _, _⟩ := hD'
  have hv' : Vals ((xs ++ [(k, a, v)]).map (·.2.2)) (us ++ [y]) := by
    rw [List.map_append]
    exact hv.append (.cons r2 .nil)
  rw [zip_entry] at he
  refine ⟨σ, _, I2.write (x := D) (e := D) (o := dNo D ep (xs ++ [(k, a, v)])) (by rw [hp]; exact True.intro) (.inl rfl) (fun b ob hb eb => (hsb.2 b hb).trans eb) ⟨o', ho⟩ (dno_ok hv' ⟨o', es, ho, hx, hdt, he⟩), rfl, q ep⟩
end
/-! over data -/
def rbPutT (P : Addr) (tk tv : RE) : RB := fun n m k => tk xd0 n m fun y m1 => tv xd0 n m1 fun z m2 => ∃ ds ky acc, y = .tup ds ∧ nkOf y = some ky ∧ ky.depth ≤ 8 ∧ m2 P = some (.dct true acc) ∧ getT acc ky = none ∧ acc.length < sizeLine ∧ k (mset m2 P (.dct true (acc ++ [(y, z)])))
def rDcT (ri : RI) (T : Tgt) (tt : RT) (tk tv : RE) (vs : List Nat) : RE := fun xd n m q => ri xd n m fun ds m1 => ∀ P, m1 P = none → goB T tt (rbPutT P tk tv) (wipeN n vs) (fun m2 => ∃ acc, m2 P = some (.dct true acc) ∧ q (.ref P) m2) ds (mset m1 P (.dct true []))
section
variable {K : PySem.W.Frag}
theorem low_putT {P : Addr} {tk tv : RE} : ∀ σ H N, lowB K (rbPutT P tk tv) σ H N → tPutT K P (lowE K W0 tk) (lowE K W0 tv) σ H N := fun σ H N ⟨n, m, G, k, hn, hs, hr, hk⟩ =>
  ⟨n, m, G, xd0, _, hn, hs, link0, hr, fun y m1 i G1 H1 e1 s1 r1 k1 => ⟨n, m1, G1, xd0, _, hn.mono e1, s1, link0, k1, fun z m2 v G2 H2 e2 s2 r2 ⟨ds, ky, acc, ed, ek, hd, mp, hno, hz, k2⟩ => by
    subst ed
    have r1' := r1.mono e2
    obtain ⟨uu, h1, ro⟩ := s2.own P _ mp
    cases ro with
    | dT zz ll nd rt =>
      cases r1' with
      | tup ea ra =>
        rename_i ep xs a vs
        refine ⟨a, ds, _, acc, ky, rfl, ⟨_, h1⟩, rt.mono s2.sub, nd, by rw [← rt.length]; exact hz, ek, hd, (Rep.tup ea ra).mono s2.sub, hno, fun ep2 => ?_⟩
        exact hk _ G2 _ (e1.trans e2) (s2.write mp (.dT zz (by rw [List.length_append, ← rt.length]; exact hz) (by
          rw [List.map_append, List.nodup_append]
          refine ⟨nd, by simp, fun x hx y hy => ?_⟩
          rw [show y = ky by simpa using hy]
          exact fun z => getT_none rt hno (z ▸ hx)) (rt.snoc ek hd (.tup ea ra) r2))) k2⟩⟩
theorem low_dcT {W : WX} {ri : RI} {T : Tgt} {tt : RT} {tk tv : RE} {vs : List Nat} (hw : T.within vs = true) : ∀ t H Q, lowE K W (rDcT ri T tt tk tv vs) t H Q → tDcG (lowI K W ri) (gT K T) (lowT K W0 tt) (fun D => lowB K (rbPutT D tk tv)) vs t H Q := fun t H Q ⟨n, m, G, xd, q, hn, hs, hl, hr, hq⟩ => by
  refine ⟨n, m, G, xd, _, hn, hs, hl, hr, fun ds m1 G1 H1 J e1 s1 S k P hP hbig => ?_⟩
  refine ⟨fun j z H => z = ds.length - j ∧ j ≤ ds.length ∧ ∃ m G', Same G1 G' ∧ Sep K G' m H ∧ goB T tt (rbPutT P tk tv) (wipeN n vs) (fun m2 => ∃ acc, m2 P = some (.dct true acc) ∧ q (.ref P) m2) (ds.drop j) m, ⟨ds.length, by simp, Nat.zero_le _, _, G1, Same.refl _, s1.alloc hP (.dT hbig (Nat.zero_le _) List.nodup_nil .nil), k P (s1.freeM hP)⟩, ?_⟩
  rintro j z H2 ⟨rfl, hj, m2, G2, e2, s2, k2⟩
  by_cases hlt : j < ds.length
  · refine .inr ⟨S.go j H2 m2 G2 e2 s2 hlt, fun H' => ∃ m G', Same G1 G' ∧ Sep K G' m H' ∧ goB T tt (rbPutT P tk tv) (wipeN n vs) (fun m2 => ∃ acc, m2 P = some (.dct true acc) ∧ q (.ref P) m2) (ds.drop (j + 1)) m, fun H' h => ⟨ds.length - (j + 1), by omega, rfl, hlt, h⟩, fun x H' y => ?_⟩
    exact low_turns S hw (hn.mono e1) e2 s2 hlt k2 x H' y fun m' G' H' e s k => ⟨m', G', e, s, k⟩
  · have e : j = ds.length := by omega
    subst e
    rw [List.drop_length, goB] at k2
    obtain ⟨acc, _, k2⟩ := k2
    exact .inl ⟨S.stop H2 m2 G2 e2 s2, hq _ m2 _ G2 H2 (e1.trans e2) s2 (.ref P) k2⟩
end
section
variable {X : Cx} {W : WX} {kx vx i0 t0 : Expr} {f0 : List Expr} {scope : Scope} {own : List (Str × Nat)} {pos : Pos} {r0 : RI} {T0 : Tgt} {q0 : RT} {tk tv : RE} {v0 : List Nat}
theorem de_dcT (hu : X.A.units + 64 < cLine) (hc : X.calm = true) (hN : X.N.Nodup) (h0 : DI X W t0 i0 r0) (ok : BlkOk X.N X.env.scope scope own) (hv : own.map (·.2) = v0) (w0 : T0.within v0 = true)
    (g0 : Blk X scope fun B => PG B t0 (gT X.K T0)) (c0 : Blk X scope fun B => DTs B W0 f0 q0) (hk : Blk X scope fun B => DE B W0 kx tk) (he : Blk X scope fun B => DE B W0 vx tv) (hs : ∀ x, foldedSetIterable i0 X.env x = pure x := by intro _; rfl) :
    DE X W (.DictComp kx vx [⟨t0, i0, f0, 0⟩] scope pos) (rDcT r0 T0 q0 tk tv v0) := by
  subst hv
  refine PE.imp (pe_dcG (ws := []) (body := fun D env => putB kx vx D env) hc hN h0 ok (fun D it env => turn_dc) g0 c0 (fun D s H C cl fp => ?_) (fun _ h => absurd h List.not_mem_nil) hs) (low_dcT w0)
  exact PB.imp (pb_putT hu rfl (hk s H C cl fp) (he s H C cl fp)) low_putT
end
end DL

/-! DL40: [a, *b]; max of a list of pairs of a number and a text -/
namespace DL
open PySem PySem.Spec PyProof.Rows L2
section
variable {X : Cx} {W : WX} {pos : Pos}
theorem pair_gt {A : Around} {s : Shared} {a b : Addr} {i j : Int} {ti tj : Tok} {x y : Str} {tx ty : Tok} (ha : s.heap.IsTuple a #[.int i ti, .str x tx]) (hb : s.heap.IsTuple b #[.int j tj, .str y ty]) (hu : A.units < cLine) :
    ∃ k : Bool, Ob.RcOp .Gt A s (.ref a) (.ref b) k ∧ (k = true → j ≤ i) ∧ (k = false → i ≤ j) := by
  have h := Ob.RcOp.tuples_gt (A := A) (e := fun n => if n = 0 then i == j else x == y) (r := fun n => if n = 0 then decide (j < i) else decide (y.cps.toList < x.cps.toList)) ha hb hu
    (fun n h1 h2 => by
      have h1 : n < 2 := h1
      match n, h1 with
      | 0, _ => exact SeqAt.EqAt.int_int i ti j tj
      | 1, _ => exact SeqAt.EqAt.str_str x tx y ty)
    (fun n h1 h2 he => by
      have h1 : n < 2 := h1
      match n, h1 with
      | 0, _ => exact Ob.RcOp.gt_int i j ti tj
      | 1, _ => exact fun prog w E Q hq => P.gt_str hq)
  refine ⟨_, h, ?_⟩
  show (Ob.lexAt _ _ (decide (2 > 2)) 0 2 = true → _) ∧ (Ob.lexAt _ _ (decide (2 > 2)) 0 2 = false → _)
  rw [Ob.lexAt_succ]
  by_cases e : i = j
  · subst e
    exact ⟨fun _ => Int.le_refl _, fun _ => Int.le_refl _⟩
  · rw [if_neg (by simpa using e)]
    simp only [if_true, decide_eq_true_eq, decide_eq_false_iff_not]
    exact ⟨fun h => by omega, fun h => by omega⟩
theorem max_eq (x : Value) : Builtin.max { pos := [x] } = (do let it ← pyIter x; let b ← newList []; again (.builtin "max.loop" { pos := [it, .none, b] })) := by
  rfl
/-- what the walk for the best leaves as it was -/
structure MaxJ (s0 s : Shared) : Prop where
  old : ∀ b o, s0.heap.get? b = some o → s.heap.get? b = some o
  gens : s.gens = s0.gens
  drawn : s.drawn = s0.drawn
  os : s.os = s0.os
theorem upd_other {h : Heap} {S b : Addr} {f : Obj → Obj} {o : Obj} (hb : b ≠ S) (e : h.get? b = some o) : (h.update S f).get? b = some o := by
  rw [Heap.get?_update_ne _ _ _ _ hb]
  exact e
theorem max_loop {A : Around} {R : Result → Shared → Prop} {s0 : Shared} {I S l : Addr} {its : List Value} {ps : List (Int × Str)} (hd : A.in1.handled = none) (hu : A.units + 8 < cLine) (hI : s0.heap.objs.size ≤ I) (hS : s0.heap.objs.size ≤ S) (hne : I ≠ S) (hlI : l ≠ I) (hl : s0.heap.IsList l its.toArray)
    (hv : ∀ (i : Nat) (v : Value), its[i]? = some v → ∃ (p : Int × Str) (a : Addr) (ti tx : Tok), ps[i]? = some p ∧ v = .ref a ∧ s0.heap.IsTuple a #[.int p.1 ti, .str p.2 tx])
    (hR : ∀ (i : Nat) (v : Value) (p : Int × Str) (s' : Shared), its[i]? = some v → ps[i]? = some p → (∀ j y, j < its.length → ps[j]? = some y → y.1 ≤ p.1) → MaxJ s0 s' → R (.ok (.ret v)) s') :
    ∀ (k j b : Nat) (s : Shared) (vb : Value) (pb : Int × Str) (c : Nat), its.length - j = k → j ≤ its.length → s.heap.IsListIter I l j → MaxJ s0 s → its[b]? = some vb → ps[b]? = some pb → (∀ i y, i < j → ps[i]? = some y → y.1 ≤ pb.1) → s.heap.get? S = some { cls := .type "list", data := .seq #[vb, vb] c } →
      codeAny (model X.prog X.w) A (.builtin "max.loop" { pos := [.ref I, .none, .ref S] }) R s := by
  have oldne : ∀ {b : Addr} {o : Obj}, s0.heap.get? b = some o → b ≠ S ∧ b ≠ I := fun {b o} e => by
    have h := Heap.lt_size e
    exact ⟨Nat.ne_of_lt (Nat.lt_of_lt_of_le h hS), Nat.ne_of_lt (Nat.lt_of_lt_of_le h hI)⟩
  have isl : ∀ {s : Shared}, MaxJ s0 s → s.heap.IsList l its.toArray := fun J => hl.at fun o e => J.old l o e
  have movJ : ∀ {s s1 : Shared}, MaxJ s0 s → Moved [I] (fun a b => b = a) s s1 → MaxJ s0 s1 := fun J mv => ⟨fun b o e => mv.heap b o (by simpa using (oldne e).2) (J.old b o e), mv.gens.trans J.gens, mv.drawn.trans J.drawn, mv.os.trans J.os⟩
  have updJ : ∀ {s : Shared} {f : Obj → Obj}, MaxJ s0 s → MaxJ s0 { s with heap := s.heap.update S f } := fun J => ⟨fun b o e => upd_other (oldne e).1 (J.old b o e), J.gens, J.drawn, J.os⟩
  intro k
  induction k with
  | zero =>
    intro j b s vb pb c hk hj hit J hb hp hbest hgS
    have Wk := (Walks.list (prog := X.prog) (w := X.w) (A := A.in1) hd I l hlI its.toArray).toS
    have ej : j = its.toArray.size := by simp; omega
    subst ej
    refine codeAny_builtin F.entry_max_loop ?_
    show wpAny _ _ (seqItems? (.ref S) >>= _) _ _ s
    refine wpAny_bind (wpAny_seqItems hgS rfl ?_)
    show wpAny _ _ (tryCatch (pyNext (.ref I)) _ >>= _) _ _ s
    refine wpAny_bind (wpAny_tryCatch ?_)
    refine Wk.done s _ _ ⟨hit, isl J⟩ fun s1 mv => ?_
    have hgS1 := mv.heap S _ (by simpa using Ne.symm hne) hgS
    show wpAny _ _ (updateSeq S _ >>= _) _ _ s1
    refine wpAny_bind (wpAny_updateSeq hgS1 rfl ?_ (by simp [sizeLine_eq]) (by simp [sizeLine_eq]))
    show wpAny _ _ (letGo _ _ >>= _) _ _ _
    refine wpAny_bind (wpAny_letGo ?_)
    refine wpAny_pure ?_
    exact hR b vb pb _ hb hp (fun i y hi hy => hbest i y (by simpa using hi) hy) (updJ (movJ J mv))
  | succ k ih =>
    intro j b s vb pb c hk hj hit J hb hp hbest hgS
    have Wk := (Walks.list (prog := X.prog) (w := X.w) (A := A.in1) hd I l hlI its.toArray).toS
    have hj2 : j < its.length := by omega
    refine codeAny_builtin F.entry_max_loop ?_
    show wpAny _ _ (seqItems? (.ref S) >>= _) _ _ s
    refine wpAny_bind (wpAny_seqItems hgS rfl ?_)
    show wpAny _ _ (tryCatch (pyNext (.ref I)) _ >>= _) _ _ s
    refine wpAny_bind (wpAny_tryCatch ?_)
    refine Wk.item j s _ _ (by simpa using hj2) ⟨hit, isl J⟩ fun v s1 hv1 st1 mv => ?_
    have hgS1 := mv.heap S _ (by simpa using Ne.symm hne) hgS
    have J1 := movJ J mv
    have hv2 : its[j]? = some v := by simpa using hv1
    obtain ⟨p, a, ti, tx, ep, rfl, ht⟩ := hv j v hv2
    obtain ⟨p', a', ti', tx', ep', rfl, ht'⟩ := hv b vb hb
    rw [hp] at ep'
    cases ep'
    obtain ⟨gt, hrc, g1, g2⟩ := pair_gt (A := A.in1) (s := s1) (ht.at fun o e => J1.old a o e) (ht'.at fun o e => J1.old a' o e) (by simp only [Around.in1]; omega)
    show wpAny _ _ (pure (Value.ref a) >>= _) _ _ s1
    refine wpAny_bind (wpAny_pure ?_)
    show wpAny _ _ (tryCatch (holding [.ref a, .ref a] _) _ >>= _) _ _ s1
    refine wpAny_bind (wpAny_tryCatch (wpAny_holding ?_))
    refine wpAny_bind (hrc X.prog X.w _ _ ?_)
    refine wpAny_bind (wpAny_holding (wpAny_truthy_bool ?_))
    refine wpAny_bind (wpAny_letGo ?_)
    refine wpAny_pure ?_
    cases gt with
    | true =>
      have hle := g1 rfl
      show wpAny _ _ (updateSeq S _ >>= _) _ _ s1
      refine wpAny_bind (wpAny_updateSeq hgS1 rfl ?_ (by simp [sizeLine_eq]) (by simp [sizeLine_eq]))
      show wpAny _ _ (letGo _ _ >>= _) _ _ _
      refine wpAny_bind (wpAny_letGo ?_)
      refine wpAny_pure ⟨rfl, ?_⟩
      refine ih (j + 1) j _ (.ref a) p _ (by omega) (by omega) (st1.1.at fun o e => upd_other hne e) (updJ J1) hv2 ep ?_ (get?_update_seq (c := "list") hgS1 fun _ => #[.ref a, .ref a])
      intro i y hi hy
      rcases Nat.lt_succ_iff_lt_or_eq.mp hi with h | rfl
      · have := hbest i y h hy
        omega
      · rw [ep] at hy
        cases hy
        exact Int.le_refl _
    | false =>
      have hle := g2 rfl
      show wpAny _ _ (letGo _ _ >>= _) _ _ _
      refine wpAny_bind (wpAny_letGo ?_)
      refine wpAny_pure ⟨rfl, ?_⟩
      refine ih (j + 1) b s1 (.ref a') pb c (by omega) (by omega) st1.1 J1 hb hp ?_ hgS1
      intro i y hi hy
      rcases Nat.lt_succ_iff_lt_or_eq.mp hi with h | rfl
      · exact hbest i y h hy
      · rw [ep] at hy
        cases hy
        exact hle
theorem check_max (x : Value) : checkBuiltinCall "max" { pos := [x] } = pure () := F.args_max1 x
/-- max(xs), xs a list of pairs of a number and a text: one of them, none has a greater number -/
def rMaxP (K : PySem.W.Frag) : List V → Hp → VK → Prop := fun xs H Q => ∃ (l : Addr) (vs : List V) (ps : List (Int × Str)), xs = [.ref l] ∧ SqL K H l vs ∧ 0 < vs.length ∧ (∀ (i : Nat) v, vs[i]? = some v → ∃ p a, ps[i]? = some p ∧ v = .ref a ∧ SqT K H a [.int p.1, .str p.2]) ∧
  ∀ (i : Nat) v p, vs[i]? = some v → ps[i]? = some p → (∀ j y, j < vs.length → ps[j]? = some y → y.1 ≤ p.1) → Q v H
theorem call_maxP (hc : X.calm = true) (hu : X.A.units + 64 < cLine) : CallR X (.builtin "max") (rMaxP X.K) := by
  intro pins s σ H xs us Q I r h
  obtain ⟨l, vs, ps, rfl, hl, h0, hp, q⟩ := h
  obtain ⟨u, rfl, rx⟩ := vals1 r
  obtain rfl : u = .ref l := rx
  obtain ⟨its, rv, hl, _⟩ := I.list hl
  have hlen : its.length = vs.length := by rw [← rv.length]
  have hlt : l < s.heap.objs.size := by
    obtain ⟨ol, hol, _⟩ := id hl.isList
    exact Heap.lt_size hol
  have hv : ∀ (i : Nat) (v : Value), its[i]? = some v → ∃ (p : Int × Str) (a : Addr) (ti tx : Tok), ps[i]? = some p ∧ v = .ref a ∧ s.heap.IsTuple a #[.int p.1 ti, .str p.2 tx] := fun i v e => by
    obtain ⟨x, ex, rx⟩ := DL.Vals.at rv e
    obtain ⟨p, a, ep, rfl, ht⟩ := hp i x ex
    obtain rfl : v = .ref a := rx
    obtain ⟨ts, rt, htu, _⟩ := I.tuple ht
    cases rt with
    | cons r1 rt =>
      cases rt with
      | cons r2 rt =>
        cases rt
        obtain ⟨t1, rfl⟩ := r1
        obtain ⟨t2, rfl⟩ := r2
        obtain ⟨o, ho, hcl, n, hdat⟩ := htu
        exact ⟨p, a, t1, t2, ep, rfl, o, ho, hcl, n, hdat⟩
  refine wpAny_call (codeAny_call_builtin F.plain_max F.entry_max (wpAny_of_eq (check_max _) ?_))
  rw [max_eq]
  refine wpAny_bind (wpAny_pyIter_list hl.isList ?_)
  refine wpAny_bind (wpAny_newList ?_)
  refine wpAny_pure ⟨rfl, ?_⟩
  have hn : 0 < its.length := by omega
  generalize hs2 : ({ s with heap := (s.heap.push { cls := .type "list_iterator", data := .fields #[.ref l, .int 0 0] }).push { cls := .type "list", data := .seq ([] : List Value).toArray } } : Shared) = s2
  have e1 : (s.heap.push { cls := .type "list_iterator", data := .fields #[.ref l, .int 0 0] }).objs.size = s.heap.objs.size + 1 := Heap.size_push _ _
  have J2 : MaxJ s s2 := by
    rw [← hs2]
    exact ⟨fun b o e => Heap.get?_push_of_some _ (Heap.get?_push_of_some _ e), rfl, rfl, rfl⟩
  have hit : s2.heap.IsListIter s.heap.objs.size l 0 := by
    rw [← hs2]
    exact ⟨_, Heap.get?_push_of_some _ (Heap.get?_push_size _ rfl), rfl, rfl⟩
  have hgS : s2.heap.get? (s.heap.objs.size + 1) = some { cls := .type "list", data := .seq #[] 0 } := by
    rw [← hs2, ← e1]
    exact Heap.get?_push_size _ rfl
  show codeAny _ _ (.builtin "max.loop" { pos := [.ref s.heap.objs.size, .none, .ref ((s.heap.push _).objs.size)] }) _ s2
  rw [e1]
  have Wk := (Walks.list (prog := X.prog) (w := X.w) (A := X.A.in1) (I.ok.hd hc) s.heap.objs.size l (Nat.ne_of_lt hlt) its.toArray).toS
  refine codeAny_builtin F.entry_max_loop ?_
  show wpAny _ _ (seqItems? (.ref (s.heap.objs.size + 1)) >>= _) _ _ s2
  refine wpAny_bind (wpAny_seqItems hgS rfl ?_)
  show wpAny _ _ (tryCatch (pyNext (.ref s.heap.objs.size)) _ >>= _) _ _ s2
  refine wpAny_bind (wpAny_tryCatch ?_)
  refine Wk.item 0 s2 _ _ (by simpa using hn) ⟨hit, hl.isList.at fun o e => J2.old l o e⟩ fun v s3 hv1 st1 mv => ?_
  have hgS3 := mv.heap (s.heap.objs.size + 1) _ (by simp) hgS
  have J3 : MaxJ s s3 := ⟨fun b o e => mv.heap b o (by simpa using Nat.ne_of_lt (Heap.lt_size e)) (J2.old b o e), mv.gens.trans J2.gens, mv.drawn.trans J2.drawn, mv.os.trans J2.os⟩
  have hv2 : its[0]? = some v := by simpa using hv1
  obtain ⟨p, a, ti, tx, ep, rfl, ht⟩ := hv 0 v hv2
  show wpAny _ _ (pure (Value.ref a) >>= _) _ _ s3
  refine wpAny_bind (wpAny_pure ?_)
  show wpAny _ _ (updateSeq (s.heap.objs.size + 1) _ >>= _) _ _ s3
  refine wpAny_bind (wpAny_updateSeq hgS3 rfl ?_ (by simp [sizeLine_eq]) (by simp [sizeLine_eq]))
  refine wpAny_pure ⟨rfl, ?_⟩
  have J4 : MaxJ s { s3 with heap := s3.heap.update (s.heap.objs.size + 1) (Obj.mapSeq fun _ => #[.ref a, .ref a]) } := ⟨fun b o e => upd_other (Nat.ne_of_lt (Nat.lt_succ_of_lt (Heap.lt_size e))) (J3.old b o e), J3.gens, J3.drawn, J3.os⟩
  refine max_loop (s0 := s) (ps := ps) (I.ok.hd hc) (by omega) (Nat.le_refl _) (Nat.le_succ _) (Nat.ne_of_lt (Nat.lt_succ_self _)) (Nat.ne_of_lt hlt) hl.isList hv ?_ (its.length - 1) 1 0 _ (.ref a) p _ rfl hn (st1.1.at fun o e => upd_other (Nat.ne_of_lt (Nat.lt_succ_self _)) e) J4 hv2 ep ?_ (get?_update_seq (c := "list") hgS3 fun _ => #[.ref a, .ref a])
  · intro i v p s' hi hpi hbest J
    obtain ⟨x, ex, rx⟩ := DL.Vals.at rv hi
    have es : s' = { s with heap := s'.heap, toks := s'.toks } := by
      obtain ⟨j1, j2, j3, j4⟩ := J
      cases s'
      cases s
      simp_all
    show EP X pins σ Q v s'
    rw [es]
    exact ⟨x, H, I.kept J.old, rx, q i x p ex hpi fun j y hj hy => hbest j y (by omega) hy⟩
  · intro i y hi hy
    have : i = 0 := by omega
    subst this
    rw [ep] at hy
    cases hy
    exact Int.le_refl _
/-- the same over data -/
def prT (p : Int × List Nat) : D := .tup [.int p.1, .str p.2]
def gMaxP : List D → Mem → QD → Prop
  | [x], m, q => ∃ ps : List (Int × List Nat), lstOf x m = some (ps.map prT) ∧ 0 < ps.length ∧ ∀ p ∈ ps, (∀ y ∈ ps, y.1 ≤ p.1) → q (prT p) m
  | _, _, _ => False
theorem cd_maxP (hc : X.calm = true) (hu : X.A.units + 64 < cLine) : CallR X (.builtin "max") (lowC X.K gMaxP) := crN (call_maxP hc hu) fun H G m ds vs q Q hr hs hg hq => by
  unfold gMaxP at hg
  split at hg
  · obtain ⟨ps, e, h0, k⟩ := hg
    cases hr with
    | cons h r =>
      cases r
      obtain ⟨l, us, rfl, hl, ra⟩ := lst_at hs h e
      have hlen : us.length = ps.length := by rw [← ra.length, List.length_map]
      have at_ : ∀ (i : Nat) u, us[i]? = some u → ∃ p, ps[i]? = some p ∧ Rep X.K G (prT p) u := fun i u eu => by
        obtain ⟨d, ed, rd⟩ := ra.getV eu
        rw [List.getElem?_map] at ed
        cases ep : ps[i]? with
        | none =>
          rw [ep] at ed
          cases ed
        | some p =>
          rw [ep] at ed
          cases ed
          exact ⟨p, rfl, rd⟩
      refine ⟨l, us, ps.map fun p => (p.1, ⟨p.2.toArray⟩), rfl, SqL.of hl, by omega, fun i u eu => ?_, fun i u p eu ep hb => ?_⟩
      · obtain ⟨p, ep, rp⟩ := at_ i u eu
        cases rp with
        | tup ea rb =>
          rename_i a ws
          cases rb with
          | cons r1 rb =>
            cases rb with
            | cons r2 rb =>
              cases rb
              cases r1
              cases r2
              exact ⟨_, a, by rw [List.getElem?_map, ep]; rfl, rfl, SqT.of (hs.sub _ _ ea)⟩
      · obtain ⟨p', ep', rp⟩ := at_ i u eu
        rw [List.getElem?_map, ep'] at ep
        cases ep
        refine hq.here hs rp (k p' (List.mem_of_getElem? ep') fun y hy => ?_)
        obtain ⟨j, hj, rfl⟩ := List.mem_iff_getElem.mp hy
        exact hb j (ps[j].1, ⟨ps[j].2.toArray⟩) (by omega) (by rw [List.getElem?_map, List.getElem?_eq_getElem hj]; rfl)
  · exact False.elim hg
/-- [.., *r, ..] -/
def rStar (r : RE) (ra : RA) : RA := fun xd n m q => r xd n m fun d m1 => ∃ ds, lstOf d m1 = some ds ∧ ra xd n m1 fun es m2 => q (ds ++ es) m2
theorem da_star {e : Expr} {es : List Expr} {re : RE} {ra : RA} {p : Pos} (h : DE X W e re) (k : DA X W es ra) : DA X W (.Starred e p :: es) (rStar re ra) := PA.imp (StX.pa_star h k) fun t H Q ⟨n, m, G, xd, q, hn, hs, hl, hr, hq⟩ =>
  ⟨n, m, G, xd, _, hn, hs, hl, hr, fun d m1 v G1 H1 e1 s1 r1 ⟨ds, el, k1⟩ => by
    obtain ⟨l, us, rfl, hl1, ra⟩ := lst_at s1 r1 el
    exact ⟨l, us, rfl, .inr (SqL.of hl1), n, m1, G1, xd, _, hn.mono e1, s1, hl.mono e1, k1, fun es m2 vs G2 H2 e2 s2 r2 k2 => hq _ m2 _ G2 H2 (e1.trans e2) s2 ((ra.mono e2).append r2) k2⟩⟩
end
end DL

/-! DL41: for over a list that may still change, and stays so; a dict frozen with what is in it -/
namespace DL
open PySem PySem.Spec PyProof.Rows L2
section
variable {X : Cx} {W : WX} {pos : Pos}
theorem ds_forK {tg iter : Expr} {body : List Stmt} {ri : RIK} {T : Tgt} {rb : RS} (hp : PassesOwn (model X.prog X.w) X.A X.env X.xe) (hc : X.calm = true) (hi : DIK X W tg iter ri) (hg : PG X tg (gT X.K T)) (hb : DSs X W body rb)
    (hs : ∀ x, foldedSetIterable iter X.env x = pure x := by intro _; rfl) : DS X W (.For tg iter body [] pos) (rForK ri T rb) :=
  PS.imp (ps_for hp hc hi hg hb hs) fun D t H ⟨n, m, G, xd, e, hn, hs, hl, hr, L⟩ =>
    ⟨n, m, G, xd, _, hn, hs, hl, hr, fun ds C m1 G1 H1 J e1 s1 S k => by
      refine ⟨fun i k σ H => k = ds.length - i ∧ i ≤ ds.length ∧ ∃ n m G', Same G1 G' ∧ RepN X.K G' n σ ∧ Sep X.K G' m H ∧ forK T rb xd C (ds.drop i) e n m, ⟨ds.length, by simp, Nat.zero_le _, n, m1, G1, Same.refl _, hn.mono e1, s1, k⟩, ?_⟩
      rintro i k σ H2 ⟨rfl, hi, n2, m2, G2, e2, hn2, s2, k2⟩
      by_cases hlt : i < ds.length
      · rw [List.drop_eq_getElem_cons hlt, forK] at k2
        obtain ⟨c2, k2⟩ := k2
        refine .inr ⟨S.go i H2 m2 G2 e2 s2 c2 hlt, fun σ' H' => ∃ n m G', Same G1 G' ∧ RepN X.K G' n σ' ∧ Sep X.K G' m H' ∧ forK T rb xd C (ds.drop (i + 1)) e n m, fun σ' H' h => ⟨ds.length - (i + 1), by omega, rfl, hlt, h⟩, fun x H' y => ?_⟩
        obtain ⟨G3, d, ed, e3, s3, r3⟩ := S.yld i x H2 H' m2 G2 e2 s2 c2 hlt y
        have ed' : ds[i] = d := by
          rw [List.getElem?_eq_getElem hlt] at ed
          exact Option.some.inj ed
        rw [ed'] at k2
        refine setT_ok s3 r3 (hn2.mono e3) k2 fun n' t' rn q => ?_
        have e13 := e1.trans (e2.trans e3)
        exact ⟨n', m2, G3, xd, _, rn, s3, hl.mono e13, q, ⟨fun n4 m4 t4 G4 H4 e4 s4 r4 k4 => ⟨n4, m4, G4, e2.trans (e3.trans e4), r4, s4, k4⟩, fun d m v G' H' a => L.rt d m v G' H' (e13.trans a), fun n m t G' H' a => L.nx n m t G' H' (e13.trans a), fun n4 m4 t4 G4 H4 e4 s4 r4 k4 => ⟨n4, m4, G4, e2.trans (e3.trans e4), r4, s4, k4⟩⟩⟩
      · have e : i = ds.length := by omega
        subst e
        rw [List.drop_length, forK] at k2
        exact .inl ⟨S.stop H2 m2 G2 e2 s2 k2.1, L.nx n2 m2 σ G2 H2 (e1.trans e2) s2 hn2 k2.2⟩⟩
end
theorem forK_step {T : Tgt} {b : RS} {xd : XD} {C : Mem → Prop} {e : EN} (J : List D → Nv → Mem → Prop) (hC : ∀ xs n m, J xs n m → C m) (hd : ∀ n m, J [] n m → e.nx n m)
    (hs : ∀ x xs n m, J (x :: xs) n m → ∀ k : Nv → Mem → Prop, (∀ n m, J xs n m → k n m) → setT T x n fun n1 => b xd ⟨k, e.rt, e.nx, k⟩ n1 m) : ∀ (xs : List D) (n : Nv) (m : Mem), J xs n m → forK T b xd C xs e n m
  | [], n, m, h => by
    rw [forK]
    exact ⟨hC _ n m h, hd n m h⟩
  | x :: xs, n, m, h => by
    rw [forK]
    exact ⟨hC _ n m h, hs x xs n m h _ fun n m h => forK_step J hC hd hs xs n m h⟩
/-- a dict of one's own with frozen values, frozen -/
theorem fz_dict {m : Mem} {p : Addr} {t : Bool} {kvs : List (D × D)} (h : m p = some (.dct t kvs)) : Fz m [p] (.ref p) (.dct t kvs) := by
  refine .dct (List.mem_singleton.mpr rfl) h ?_
  clear h
  induction kvs with
  | nil => exact .nil
  | cons a l ih => exact .cons (.keep _) ih
/-- xs[lo:hi] of a list, a list of one's own -/
def gSlO : D → Option Int → Option Int → Mem → QD → Prop := fun x lo hi m q => ∃ ds, lstOf x m = some ds ∧ ∀ p, m p = none → q (.ref p) (mset m p (.lst (cut ds lo hi)))
def rSlO (r : RE) (rl rh : RO) : RE := fun xd n m q => r xd n m fun x m1 => rl xd n m1 fun lo m2 => rh xd n m2 fun hi m3 => gSlO x lo hi m3 q
section
variable {X : Cx} {W : WX} {pos p2 : Pos} {e : Expr}
theorem sd_slO : SlR X (lowSl X.K gSlO) := by
  intro pins s σ H x v vl vu lo hi sl Q I rx hsl pl pu ⟨d, m, G, q, hx, hs, ⟨ds, e, k⟩, hq⟩
  refine sl_list pins s σ H x v vl vu lo hi sl Q I rx hsl pl pu ?_
  obtain ⟨p, vs, rfl, hp, ra⟩ := lst_at hs hx e
  exact ⟨p, vs, rfl, SqL.of hp, fun l hl => hq _ _ _ G _ (Same.refl G) (hs.alloc hl (.lst (ra.cut lo hi))) (.ref l) (k l (hs.freeM hl))⟩
theorem de_sliceO {r : RE} {lo hi : Option Expr} {rl rh : RO} (he : DE X W e r) (hl : PO X lo (lowO X.K W rl)) (hu : PO X hi (lowO X.K W rh)) : DE X W (.Subscript e (.Slice lo hi none p2) pos) (rSlO r rl rh) :=
  PE.imp (pe_slice sd_slO he hl hu) fun t H Q ⟨n, m, G, xd, q, hn, hs, hl, hr, hq⟩ =>
    ⟨n, m, G, xd, _, hn, hs, hl, hr, fun d m1 v G1 H1 e1 s1 r1 q1 => ⟨n, m1, G1, xd, _, hn.mono e1, s1, hl.mono e1, q1, fun o1 m2 G2 H2 e2 s2 q2 =>
      ⟨n, m2, G2, xd, _, hn.mono (e1.trans e2), s2, hl.mono (e1.trans e2), q2, fun o2 m3 G3 H3 e3 s3 q3 => ⟨d, m3, G3, q, r1.mono (e2.trans e3), s3, q3, fun d m' v G' H' e4 s4 r4 q4 => hq d m' v G' H' (e1.trans (e2.trans (e3.trans e4))) s4 r4 q4⟩⟩⟩⟩
end
theorem mdels_one (m : Mem) (p : Addr) : mdels m [p] = mdel m p := by rw [mdels_cons, mdels_nil]
end DL

/-! DL42: y = {k: v for ..}, a statement of its own -/
namespace DL
open PySem PySem.Spec PyProof.Rows L2
section
variable {X : Cx} {kx vx iter tg : Expr} {rest : List Comprehension} {ifs : List Expr} {scope : Scope} {own : List (Str × Nat)} {pos : Pos}
theorem ps_dcG {i : Nat} {y : Str} {py spos : Pos} {wi : TI} {g : TG} {tt : TT} {tb : Addr → TB} {ws : List Nat} {body : Addr → Env → Sem Unit} (hc : X.calm = true) (hN : X.N.Nodup) (hi : PI X tg iter wi) (ok : BlkOk X.N X.env.scope scope own)
    (hT : ∀ D it env, compTurn (.DictComp kx vx (⟨tg, iter, ifs, 0⟩ :: rest) scope pos) 0 it (.ref D) env = turnE (.DictComp kx vx (⟨tg, iter, ifs, 0⟩ :: rest) scope pos) 0 iter.pos tg ifs it (.ref D) env (body D env))
    (hg : ∀ (s : Shared) (H : Hp) (C : Addr) (cl : List (Str × Addr)) (fp : List Addr), PG (X.blk s H scope (compEnvC scope cl C X.env) fp) tg g) (ht : ∀ (s : Shared) (H : Hp) (C : Addr) (cl : List (Str × Addr)) (fp : List Addr), PTs (X.blk s H scope (compEnvC scope cl C X.env) fp) ifs tt)
    (hb : ∀ (D : Addr) (s : Shared) (H : Hp) (C : Addr) (cl : List (Str × Addr)) (fp : List Addr), PB (X.blk s H scope (compEnvC scope cl C X.env) fp) (body D (compEnvC scope cl C X.env)) ws (tb D)) (hin : ∀ j ∈ ws, j ∈ own.map (·.2))
    (hsw : swapsWith (.DictComp kx vx (⟨tg, iter, ifs, 0⟩ :: rest) scope pos) (some (.Name y py)) spos.line X.env = pure true) (hy : PG X (.Name y py) (gName i)) (hs : ∀ x, foldedSetIterable iter X.env x = pure x := by intro _; rfl) : PS X (.Assign [.Name y py] (.DictComp kx vx (⟨tg, iter, ifs, 0⟩ :: rest) scope pos) spos) (tAsg (tDcG wi g tt tb (own.map (·.2))) (gName i)) := by
  refine ⟨fun pins s σ H D0 I h => ?_⟩
  rw [arm_exec_Assign]
  refine wpAny_bind (wpAny_standAt (wpAny_bind (wpAny_of_eq hsw ?_)))
  show wpAny _ _ ((comprehension (.DictComp kx vx (⟨tg, iter, ifs, 0⟩ :: rest) scope pos) scope X.env (firstIterPos (⟨tg, iter, ifs, 0⟩ :: rest) pos) newDict false (eval iter X.env) (some (assign (.Name y py) X.env)) >>= fun _ => pure ()) >>= fun _ => pure Flow.next) _ _ s
  refine wpAny_bind (wpAny_bind (Q := fun _ s' => wpAny (model X.prog X.w) X.A (pure Flow.next) (SP X pins D0) X.xe s') ?_)
  have hfree : ∀ y ∈ scope.names, y.2 = .free → ∃ c, X.env.cells.lookup y.1 = some c := fun y hy e => (ok.free y hy e).elim (fun k => I.ok.has _ (.inl k)) fun k => I.ok.has _ (.inr k)
  refine wpAny_comprehension_free (use := some (assign (.Name y py) X.env)) (Q := fun _ s' => wpAny (model X.prog X.w) X.A (pure ()) (fun _ s'' => wpAny (model X.prog X.w) X.A (pure Flow.next) (SP X pins D0) X.xe s'') X.xe s') rfl hs (closure_ok hfree) ok.kind (fun y hy e => by rw [ok.uniq y hy, e]) (thn (hi.run pins s σ H _ I h) fun xv s1 hx => thn hx fun itv s2 h2 => ?_)
  obtain ⟨it, fp, tn, J, H2, e, I2, T, st2, f2, q⟩ := h2
  subst e
  refine wpAny_newObj_type (newEnv_comp ?_)
  generalize hD : s2.heap.objs.size = D
  obtain ⟨V, ⟨m0, v0⟩, turn⟩ := q D (I2.hok.fresh (Nat.le_of_eq hD)) (beq_eq_false_iff_ne.mpr (Ne.symm (Nat.ne_of_lt (by rw [← hD]; exact I2.big))))
  generalize hs3 : ({ s2 with heap := s2.heap.push { cls := .type "dict", data := .dict #[] } } : Shared) = s3
  have h3 : s3.heap = s2.heap.push { cls := .type "dict", data := .dict #[] } := by rw [← hs3]
  have I3 : Inv X pins σ (upd H2 D (dNo D 0 [])) s3 := by
    rw [← hs3]
    exact I2.laid (t' := s2.toks) (fun b o e => Heap.get?_push_of_some _ e) (Nat.le_of_eq hD) (dno_ok (w' := X.w) (us := []) .nil ⟨_, #[], by rw [← hD]; exact Heap.get?_push_size _ rfl, ⟨rfl, rfl, rfl⟩, rfl, rfl⟩)
  have f3 : ∀ b ∈ fp, FpOk X pins (upd H2 D (dNo D 0 [])) b ∧ b < s3.heap.objs.size := fun b hb => by
    obtain ⟨o, eo, _⟩ := T.obj _ _ st2 b hb
    have hlt := Heap.lt_size eo
    refine ⟨⟨?_, (f2 b hb).2⟩, by rw [h3, Heap.size_push]; exact Nat.lt_succ_of_lt hlt⟩
    rw [upd_ne (show b ≠ D by rw [← hD]; exact Nat.ne_of_lt hlt)]
    exact (f2 b hb).1
  have st3 : tn 0 s3.heap := T.keep _ _ _ st2 fun b _ o e => by rw [h3]; exact Heap.get?_push_of_some _ e
  have I4 := block_start I3 ok hN f3
  have pg := hg s3 (upd H2 D (dNo D 0 [])) s3.heap.objs.size (cellsFrom (s3.heap.objs.size + 1) scope.names (cloFrom X.env.cells scope.names [])) fp
  have pt := ht s3 (upd H2 D (dNo D 0 [])) s3.heap.objs.size (cellsFrom (s3.heap.objs.size + 1) scope.names (cloFrom X.env.cells scope.names [])) fp
  have pb := hb D s3 (upd H2 D (dNo D 0 [])) s3.heap.objs.size (cellsFrom (s3.heap.objs.size + 1) scope.names (cloFrom X.env.cells scope.names [])) fp
  show codeAny _ _ (.compStart (.DictComp kx vx (⟨tg, iter, ifs, 0⟩ :: rest) scope pos) 0 (.ref it) (.ref D) (compEnvC scope (cellsFrom (s3.heap.objs.size + 1) scope.names (cloFrom X.env.cells scope.names [])) s3.heap.objs.size X.env)) (compPost (model X.prog X.w) X.A X.xe (some (assign (.Name y py) X.env)) _ (.ref D) s3.heap.objs.size) { s3 with heap := pushCells (s3.heap.push { cls := .type "dict", data := .dict #[] }) scope.names }
  have nfp : ∀ b ∈ fp, (upd H2 D (dNo D 0 [])) b = none := fun b hb => (f3 b hb).1.1
  generalize hce : compEnvC scope (cellsFrom (s3.heap.objs.size + 1) scope.names (cloFrom X.env.cells scope.names [])) s3.heap.objs.size X.env = ce at I4 pg pt pb ⊢
  have cL : ce.locals = s3.heap.objs.size := by rw [← hce]; rfl
  generalize hH3 : upd H2 D (dNo D 0 []) = H3 at I3 I4 pg pt pb v0 nfp f3
  generalize hs4 : ({ s3 with heap := pushCells (s3.heap.push { cls := .type "dict", data := .dict #[] }) scope.names } : Shared) = s4 at I4 ⊢
  have st4 : tn 0 s4.heap := T.keep _ _ _ st3 fun b _ o e => by rw [← hs4]; exact pushCells_keeps _ _ _ _ (Heap.get?_push_of_some _ e)
  have stat : ∀ {σ' : L2.St} {H' : Hp} {s' : Shared}, Inv (X.blk s3 H3 scope ce fp) [] σ' H' s' → (∀ b ∈ fp, H' b = none) → ∀ b ∈ fp, FpOk (X.blk s3 H3 scope ce fp) [] H' b := fun {σ' H' s'} I' hn b hb =>
    ⟨hn b hb, (I'.ok.exf b hb).1, I'.ok.exfs b hb, .inl hb, fun x c e => (I'.ok.exf b hb).2 x c e, fun p hp => absurd (show p ∈ ([] : List (Addr × Obj)) ++ [] from hp) (by simp)⟩
  have loop : codeAny (model X.prog X.w) X.A (.compLoop (.DictComp kx vx (⟨tg, iter, ifs, 0⟩ :: rest) scope pos) 0 (.ref it) (.ref D) ce) (compPost (model X.prog X.w) X.A X.xe (some (assign (.Name y py) X.env)) (fun _ s' => wpAny (model X.prog X.w) X.A (pure ()) (fun _ s'' => wpAny (model X.prog X.w) X.A (pure Flow.next) (SP X pins D0) X.xe s'') X.xe s') (.ref D) s3.heap.objs.size) s4 := by
    refine loopE (hT D _ ce) (fun k s' => ∃ j H', Inv (X.blk s3 H3 scope ce fp) [] (wipe σ (own.map (·.2))) H' s' ∧ tn j s'.heap ∧ (∀ b ∈ fp, H' b = none) ∧ V j k H') ?_ m0 ⟨0, H3, I4, st4, nfp, v0⟩
    rintro k s5 ⟨j, H5, I5, st5, n5, v5⟩
    rcases turn j k H5 v5 with ⟨stop, qq⟩ | ⟨go, M, hM, step⟩
    · refine thnF (T.done (X.blk s3 H3 scope ce fp) rfl rfl rfl hc j [] s5 _ H5 (fun _ _ => False) I5 (stat I5 n5) st5 stop) fun r s6 ⟨hr, I6⟩ => ?_
      subst hr
      have I7 : Inv X pins σ H5 s6 := I3.call' (ch := fp) I6.os I6.base I6.hok I6.bare fun b hb => ⟨(f3 b hb).1.2.2.2.1, (f3 b hb).1.2.1, (f3 b hb).1.2.2.2.2.1, (f3 b hb).1.2.2.2.2.2⟩
      have nC : H5 s3.heap.objs.size = none := by
        rw [← cL]
        exact I6.free
      obtain ⟨mm, hn, _⟩ := I6.loc
      have hn : s6.heap.Ns ce.locals mm := hn
      rw [cL] at hn
      obtain ⟨g0, g1, g2, g3, g4, g5⟩ := I3.fpOk (Nat.le_refl _) nC
      have fC := I3.fpOk (Nat.le_refl _) nC
      obtain ⟨oC, esC, epC, hoC, hdC, _⟩ := id hn
      have I8 := I7.pinned (fp := [s3.heap.objs.size]) (fun b hb => by rw [List.mem_singleton.mp hb]; exact fC) (fun b hb => by rw [List.mem_singleton.mp hb]; exact ⟨oC, hoC, fun v z => by rw [hdC] at z; cases z⟩)
      show wpAny _ _ (assign (.Name y py) X.env (.ref D)) _ _ s6
      refine thn (hy.run _ s6 σ H5 (.ref D) (.ref D) _ I8 rfl qq) fun _ s7 ⟨σ7, H7, I9, q9⟩ => ?_
      have zC := I9.pin (s3.heap.objs.size, oC) (List.mem_append_right _ (List.mem_append_right _ (mem_pinsAt (List.mem_singleton.mpr rfl) hoC)))
      have n7 : H7 s3.heap.objs.size = none := zC.2.1
      obtain ⟨k0, k1, k2, k3, k4, k5⟩ := I3.fpOk (Nat.le_refl _) n7
      refine ⟨mm, hn.at fun o e => by rw [hoC] at e; cases e; exact zC.1, fun h'' sb => wpAny_pure (wpAny_pure ⟨σ7, H7, (I9.unpinned).turned (t' := s7.toks) (fun b o hb e => (sb.2 b hb).trans e) k0 k1 k3 k4 k5, q9⟩)⟩
    · refine thnF (T.item (X.blk s3 H3 scope ce fp) rfl rfl rfl hc j [] s5 _ H5 (fun _ _ => False) I5 (stat I5 n5) st5 go) fun r s6 ⟨u, hr, h6⟩ => ?_
      subst hr
      refine thnF h6 fun _ s7 ⟨x, H7, I7, r7, y7, st7, n7⟩ => ?_
      have I7' := I7.pinned (stat I7 n7) (T.obj _ _ st7)
      refine thnF (pg.run _ s7 _ H7 x u _ I7' r7 (step x H7 y7)) fun _ s8 ⟨σ8, H8, I8, w8, q8⟩ => ?_
      refine thnF (pt.run _ s8 σ8 H8 _ I8 q8) fun b s9 ⟨H9, I9, q9⟩ => ?_
      have fin : ∀ {σ' : L2.St} {s' : Shared} {H' : Hp}, Inv (X.blk s3 H3 scope ce fp) ([] ++ pinsAt fp s7.heap) σ' H' s' → wipe σ' ws = wipe σ8 ws → M H' → ∃ m, m < k ∧ ∃ j H', Inv (X.blk s3 H3 scope ce fp) [] (wipe σ (own.map (·.2))) H' s' ∧ tn j s'.heap ∧ (∀ b ∈ fp, H' b = none) ∧ V j m H' := fun {σ' s' H'} I' hw nx => by
        obtain ⟨k', hk, v'⟩ := hM H' nx
        obtain ⟨l, kp⟩ := wipe_in w8 hw hin
        have pin : ∀ b ∈ fp, ∀ o, s7.heap.get? b = some o → s'.heap.get? b = some o ∧ H' b = none := fun b hb o e => by
          have z := I'.pin (b, o) (List.mem_append_right _ (List.mem_append_right _ (mem_pinsAt hb e)))
          exact ⟨z.1, z.2.1⟩
        refine ⟨k', hk, j + 1, H', (I'.unpinned (pins := [])).weak l kp, T.keep _ _ _ st7 fun b hb o e => (pin b hb o e).1, fun b hb => ?_, v'⟩
        obtain ⟨o, e, _⟩ := T.obj _ _ st7 b hb
        exact (pin b hb o e).2
      cases b with
      | false =>
        simp only [Bool.false_eq_true, if_false] at q9 ⊢
        exact fin I9 rfl q9
      | true =>
        simp only [if_true] at q9 ⊢
        exact thnF (pb _ s9 σ8 H9 M I9 q9) fun _ s10 ⟨σ10, H10, I10, w10, n10⟩ => fin I10 w10 n10
  exact codeAny_compStart_dict loop (T.self X.A 0 _ _ _ st4 loop)



end
theorem sw_dict {kx vx : Expr} {gs : List Comprehension} {scope : Scope} {pos py : Pos} {y : Str} {l : Nat} {env : Env} (h1 : env.scope.kind = .function) (h2 : env.scope.names.lookup y = some .local) (h3 : (py.line == pos.line) = true)
    (h4 : (scope.names.any fun x => match x with | (n, k) => n == y && (k == NameKind.local || k == NameKind.cell)) = false) : swapsWith (.DictComp kx vx gs scope pos) (some (.Name y py)) l env = pure true := sw_true (elt := kx) (gs := gs) (pos := pos) (l := l) h1 h2 h3 h4
section
variable {X : Cx} {W : WX} {kx vx i0 t0 : Expr} {f0 : List Expr} {scope : Scope} {own : List (Str × Nat)} {pos : Pos} {r0 : RI} {T0 : Tgt} {q0 : RT} {tk tv : RE} {v0 : List Nat}
theorem ds_setDcT {i : Nat} {y : Str} {py spos : Pos} (hu : X.A.units + 64 < cLine) (hc : X.calm = true) (hN : X.N.Nodup) (hy : X.N[i]? = some y) (hyl : X.env.scope.names.lookup y = some .local) (hsw : swapsWith (.DictComp kx vx [⟨t0, i0, f0, 0⟩] scope pos) (some (.Name y py)) spos.line X.env = pure true)
    (h0 : DI X W t0 i0 r0) (ok : BlkOk X.N X.env.scope scope own) (hv : own.map (·.2) = v0) (w0 : T0.within v0 = true)
    (g0 : Blk X scope fun B => PG B t0 (gT X.K T0)) (c0 : Blk X scope fun B => DTs B W0 f0 q0) (hk : Blk X scope fun B => DE B W0 kx tk) (he : Blk X scope fun B => DE B W0 vx tv) (hs : ∀ x, foldedSetIterable i0 X.env x = pure x := by intro _; rfl) :
    DS X W (.Assign [.Name y py] (.DictComp kx vx [⟨t0, i0, f0, 0⟩] scope pos) spos) (rSet (rDcT r0 T0 q0 tk tv v0) i) := by
  subst hv
  refine PS.imp (ps_dcG (i := i) (ws := []) (tt := lowT X.K W0 q0) (tb := fun D => lowB X.K (rbPutT D tk tv)) (body := fun D env => putB kx vx D env) hc hN h0 ok (fun D it env => turn_dc) g0 c0 (fun D s H C cl fp => ?_) (fun _ h => absurd h List.not_mem_nil) hsw (pg_name hN hy (.inl hyl) (.inr hyl)) hs) fun D t H ⟨n, m, G, xd, e, hn, hs, hl, hr, L⟩ => ?_
  · exact PB.imp (pb_putT hu rfl (hk s H C cl fp) (he s H C cl fp)) low_putT
  · exact low_dcT w0 _ _ _ ⟨n, m, G, xd, _, hn, hs, hl, hr, fun d m1 v G1 H1 e1 s1 r1 k => L.nx _ m1 _ G1 H1 e1 s1 ((hn.mono e1).set r1 i) k⟩
end
end DL

/-! DL43: raise X() of a class of one's own that keeps nothing -/
namespace DL
open PySem PySem.Spec PyProof.Rows L2
section
variable {X : Cx} {W : WX} {p pos pos' : Pos}
theorem pmk_own0 {C : Addr} {bmB : List Value} {B newId initId : String} {x : Str} (F : ExcBaseFacts B newId initId bmB) (q : PySem.W.excIn X.K C bmB newId = true) (gC : X.mg x = some (.ref C)) (kC : PySem.W.keepIn X.K (.ref C) = true) (r : Raises X (.ref C)) (hg : Gl X x) (hdb : (x == ("__debug__" : Str)) = false := by decide) :
    PMk X (.Call (.Name x p) [] [] pos) fun _ H Q => Q (.ref C) none H := fun pins s σ H Q I h => by
  refine wpAny_Call_NameR (ld_glob I hg gC ?_ hdb)
  refine PySem.W.callWith_K0 I.kIn kC ?_
  rw [List.append_nil]
  obtain ⟨bm, N, nm, qn, bs, hdct, sn, sub, ab, col, dd, k0, k1, k2, k3, k5, mN, ho, hN, hi, ht⟩ := exc_obj I.kIn q
  refine wpAny_call_exc_subT F ht ho hN hi (fun h' e M => ?_) (Nat.zero_le _)
  obtain ⟨t, he, _, _⟩ := M.there
  exact ⟨e, _, _, s, H, .ref C, none, rfl, I, M.keeps, M.new, he, ⟨rfl, rfl⟩, rfl, rfl, I.hok.gone M.new, rfl, I.bare, r, h⟩
/-- what a law knows of a class whose errors keep nothing -/
structure Exc0D (K : PySem.W.Frag) (mg : Str → Option Value) (nm : Str) : Prop where
  ex : ∃ (C : Addr) (bmB : List Value) (B newId initId : String), ExcBaseFacts B newId initId bmB ∧ PySem.W.excIn K C bmB newId = true ∧ mg nm = some (.ref C) ∧ PySem.W.keepIn K (.ref C) = true ∧ PySem.W.subIn K (.ref C) (.type "BaseException") = some true ∧ PySem.W.typeIn K (.ref C) = some (.type "type") ∧ ClsK K nm (.ref C)
/-- raise X() -/
def rRaise0 (nm : Str) : RS := fun xd _ n m => xd nm [] n m
theorem ds_raise0 {nm : Str} (hc : X.calm = true) (tk : Takes X W) (c : Exc0D X.K X.mg nm) (hg : Gl X nm) (hdb : (nm == ("__debug__" : Str)) = false := by decide) : DS X W (.Raise (some (.Call (.Name nm p) [] [] pos')) none pos) (rRaise0 nm) := by
  obtain ⟨C, bmB, B, newId, initId, F, q, hm, kC, sC, tC, cl⟩ := c.ex
  exact PS.imp (ps_raise hc tk (pmk_own0 F q hm kC (raises_own sC tC) hg hdb)) fun D t H ⟨n, m, G, xd, en, hn, hs, hl, hq, L⟩ => hl nm (.ref C) [] none n m t G H (Same.refl G) hs hn (.no cl) hq
end
end DL

/-! DL44: lambdas: made, handed to a def, called there -/
namespace DL
open PySem PySem.Spec PyProof.Rows L2 LamX NdefX
section
variable {K : PySem.W.Frag} {H : Hp}
theorem RepC.names : ∀ {cs : List (Option D)} {ws : List (Option V)}, RepC K H cs ws → RepN K H cs ws
  | _, _, .nil => .nil
  | _, _, .no r => .no (RepC.names r)
  | _, _, .yes h r => .yes h (RepC.names r)
theorem RepN.cap : ∀ {cs : List (Option D)} {ws : List (Option V)}, RepN K H cs ws → RepC K H cs ws
  | _, _, .nil => .nil
  | _, _, .no r => .no (RepN.cap r)
  | _, _, .yes h r => .yes h (RepN.cap r)
theorem RepN.app : ∀ {a b : Nv} {s t : L2.St}, RepN K H a s → RepN K H b t → RepN K H (a ++ b) (s ++ t)
  | _, _, _, _, .nil, h => h
  | _, _, _, _, .no r, h => .no (RepN.app r h)
  | _, _, _, _, .yes q r, h => .yes q (RepN.app r h)
theorem RepN.lens : ∀ {a : Nv} {s : L2.St}, RepN K H a s → a.length = s.length
  | _, _, .nil => rfl
  | _, _, .no r => by rw [List.length_cons, List.length_cons, RepN.lens r]
  | _, _, .yes _ r => by rw [List.length_cons, List.length_cons, RepN.lens r]
/-- what stands at a name -/
def nAt (n : Nv) (j : Nat) : Option D := match n[j]? with
  | some o => o
  | none => none
theorem RepN.slots {n : Nv} {t : L2.St} (h : RepN K H n t) : ∀ js : List Nat, RepN K H (js.map (nAt n)) (js.map (slotAt t))
  | [] => .nil
  | j :: js => by
    rw [List.map_cons, List.map_cons]
    cases e : nAt n j with
    | none => exact .no (RepN.slots h js)
    | some d =>
      have e1 : n[j]? = some (some d) := by
        unfold nAt at e
        split at e
        · rename_i o q
          rw [q, e]
        · cases e
      obtain ⟨v, h1, h2⟩ := h.get e1
      rw [slotAt_of h1]
      exact .yes h2 (RepN.slots h js)
end
/-- cells hold what they held -/
theorem cells_un {cl : List (Str × Addr)} {fr : List Str} {ws : List (Option V)} {h h' : Heap} {H H' : Hp} {fs ex : List Addr} (C : CellsAt cl fr ws h H) (u : Un fs ex H H' h h') (hx : ex = []) : CellsAt cl fr ws h' H' := by
  subst hx
  have kp : ∀ y c, cl.lookup y = some c → ∀ v, h.IsCell c v → h'.IsCell c v := fun y c e v ⟨o, ho, hd⟩ => by
    obtain ⟨sl, q⟩ := u.any ho (C.all y c e).1 (by simp)
    exact ⟨_, q, hd⟩
  refine ⟨C.len, fun y c e => ?_, C.inj, fun i y e => ?_⟩
  · obtain ⟨n, v, z⟩ := C.all y c e
    refine ⟨?_, v, kp y c e v z⟩
    obtain ⟨o, ho, _⟩ := z
    exact u.free c o ho n (by simp)
  · obtain ⟨c, hc, hv⟩ := C.has i y e
    refine ⟨c, hc, fun v ev => ?_⟩
    obtain ⟨u2, r, z⟩ := hv v ev
    exact ⟨u2, r, kp y c hc _ z⟩
theorem lamO_at {P : Program} {w : World} {H : Hp} {h : Heap} {f c : Addr} {S : LS} {cl : List (Str × Addr)} (hok : HOk P w H h) (e : H f = some (LamO f S cl c)) : ∃ (od : Option Addr) (sl : Array (Option Value)) (pm ctv : Value), h.get? f = some (⟨.type "function", od, .func (PySem.W.kla_fn "<lambda>" S.qual S.params S.body S.scope cl pm (.ref c) ctv), sl⟩ : Obj) := by
  obtain ⟨z, _, _⟩ := hok f _ e
  exact z
/-- the names that a lambda takes from around it -/
def frOf (S : LS) : List Str := (S.scope.names.filter fun y => decide (y.2 = .free)).map (·.1)
/-! ### what a lambda promises -/
abbrev LS.nf (S : LS) (cl : List (Str × Addr)) (c : Addr) : NF := ⟨"<lambda>", S.qual, S.params, [], S.scope, cl, c⟩
def lowL (K : PySem.W.Frag) (sp : List (Option D) → SpD) (ws : List (Option V)) : Sp := fun vs H Q E => ∃ (cs : List (Option D)) (ds : List D) (m : Mem) (G : Hp) (q : QD) (xf : XF), RepN K G cs ws ∧ Reps K G ds vs ∧ Sep K G m H ∧ sp cs ds m q xf ∧ lowQ K G q Q ∧ LinkF K E G xf
structure LamD (P : Program) (w : World) (K : PySem.W.Frag) (mg : Str → Option Value) (base : Heap) (k : Nat) (S : LS) (ps fr : List Str) (sp : List (Option D) → SpD) : Prop where
  run : ∀ (A : Around) (outer : List Env) (s : Shared) (H : Hp) (us : List Value) (vs : List V) (ws : List (Option V)) (f c : Addr) (cl : List (Str × Addr)) (Q : VK) (E : XK), Room k A → Env0 P w K mg base A outer s H → H f = some (LamO f S cl c) → H c = some (CodeO c S.qual) →
    CellsAt cl fr ws s.heap H → Vals vs us → lowL K sp ws vs H Q E → codeAny (model P w) A (.call (.ref f) ⟨us, []⟩) (CR (L2.CX P w) outer P w H s Q E) s
/-- the names at a lambda's start -/
def nvL (N : List Str) (ds : List D) (cs : List (Option D)) : Nv := ds.map some ++ (cs ++ List.replicate (N.length - ds.length - cs.length) none)
section
variable {P : Program} {w : World} {K : PySem.W.Frag} {mg : Str → Option Value} {base : Heap}
/-- THE RULE: a lambda by its body -/
theorem lamD_of {k : Nat} {S : LS} {N ps fr : List Str} {sp : List (Option D) → SpD} (Sc : NScope N ps fr S.scope) (hb : ∀ (cl : List (Str × Addr)) (pm cv ctv : Value) (us : List Value), us.length = ps.length → bindArgs (PySem.W.kla_fn "<lambda>" S.qual S.params S.body S.scope cl pm cv ctv) ⟨us, []⟩ = pure (ps.zip us))
    (len : ∀ cs ds m q xf, sp cs ds m q xf → ds.length = ps.length)
    (hbody : ∀ (f c : Addr) (cl : List (Str × Addr)) (A : Around) (outer : List Env) (s : Shared) (H : Hp) (E : XK), Room k (A.deeper (envF (S.nf cl c) f s.heap.objs.size)) →
      ∃ r, DE (ncx (L2.CX P w) P w K mg base N (S.nf cl c) f A outer s H E) (WF E) S.body r ∧ ∀ cs ds m q xf, sp cs ds m q xf → r (xdD xf) (nvL N ds cs) m (rtD q)) : LamD P w K mg base (k + 1) S ps fr sp := by
  refine ⟨fun A outer s H us vs ws f c cl Q E hr e0 hf hc C r hsp => ?_⟩
  obtain ⟨cs, ds, m, G, q, xf, rc, rs, hs, h, hq, hx⟩ := hsp
  have hl : vs.length = ps.length := by rw [← rs.length]; exact len _ _ _ _ _ h
  have lim : s.heap.NoLimit := e0.mod.nolimit.keeps fun b o e => (e0.bs b o e).1
  obtain ⟨od, sl, pm, ctv, ho⟩ := lamO_at e0.hok hf
  obtain ⟨⟨oc, vc, t, hoc, hdc, hvc⟩, _, _⟩ := e0.hok c _ hc
  refine PySem.W.kla_callFunE hr.depth ho rfl Sc.co Sc.gen rfl ⟨c, oc, vc, t, rfl, hoc, hdc, hvc⟩ ?_
  rw [hb cl pm (.ref c) ctv us (by rw [← r.length]; exact hl)]
  refine wpAny_pure (wpAny_newFunctionEnv Sc.nocell (fun ⟨n, _⟩ hy => Sc.par n (List.of_mem_zip hy).1) (fun h₁ hns hsb => ⟨lim.fresh _ hsb, ?_⟩) Sc.kind)
  show codeAny _ _ (.expr S.body (envF (S.nf cl c) f s.heap.objs.size)) _ _
  have kp : ∀ b o, s.heap.get? b = some o → h₁.get? b = some o := fun b o e => hsb.extBut b o (Nat.ne_of_lt (Heap.lt_size e)) (Heap.get?_push_of_some _ e)
  obtain ⟨rd, hd, hv⟩ := hbody f c cl A outer s H E (hr.deeper _)
  have I : Inv (ncx (L2.CX P w) P w K mg base N (S.nf cl c) f A outer s H E) [] (startF N vs ws) H { s with heap := h₁, toks := s.toks + (ps.zip us).length } := inv_startN Sc hr.hd e0 hl r C hns kp
  have hn : RepN K G (nvL N ds cs) (startF N vs ws) := by
    unfold nvL startF
    rw [← rs.length, ← rc.lens]
    refine RepN.app ?_ (RepN.app rc (RepN.nones _))
    have := RepN.start 0 rs
    simpa using this
  refine PySem.W.kla_codeExpr (wpAny_mono (hd.run [] _ (startF N vs ws) H Q I ⟨_, m, G, _, _, hn, hs, ?_, hv cs ds m q xf h, ?_⟩) (fun v s' hq => ?_) fun e s' hq => hq)
  · exact fun nm c fs o _ m' t G' H' e1 s1 _ r1 ⟨m1, z, k⟩ => hx nm c fs o m1 G' H' e1 (s1.sub' z) r1 k
  · exact fun d m' v G' H' e1 s1 r1 ⟨m1, z, k⟩ => hq d m1 v G' H' e1 (s1.sub' z) r1 k
  · obtain ⟨w', H', J', rv, q⟩ := hq
    exact ⟨w', H', J'.os, J'.bare, J'.base, J'.hok, rv, q⟩
end
/-! ### called by name -/
def rDeed (i : Nat) (S : LS) (cl : List (Str × Addr)) (ws : List (Option V)) (sp : List (Option D) → SpD) (ra : RA) : RE := fun xd n m q => ∃ f c cs, n[i]? = some (some (.fn f S cl c ws cs)) ∧ ra xd n m fun ds m1 => sp cs ds m1 q fun c fs m' => xd c fs n m'
section
variable {X : Cx} {W : WX} {p pos : Pos}
theorem lamAt {f c : Addr} {S : LS} {cl : List (Str × Addr)} {pins : List (Addr × Obj)} {σ : L2.St} {H : Hp} {s : Shared} (I : Inv X pins σ H s) (e : H f = some (LamO f S cl c)) : PySem.W.FnAt f s.heap := by
  obtain ⟨od, sl, pm, ctv, ho⟩ := lamO_at I.hok e
  exact ⟨_, od, _, sl, ho⟩
theorem de_deed {i j k : Nat} {a : Str} {S : LS} {cl : List (Str × Addr)} {ws : List (Option V)} {ps fr : List Str} {sp : List (Option D) → SpD} {e : Expr} {es : List Expr} {ra : RA} (LM : LamD X.prog X.w X.K X.mg X.base k S ps fr sp) (C : CellsAt cl fr ws X.s_0.heap X.H_0) (hex : X.ex = []) (hr : Room j X.A) (hk : k ≤ j) (hx : Pas X W)
    (hN : X.N[i]? = some a) (hv : Vis X.env.scope a) (ha : DA X W (e :: es) ra) (hd : (a == ("__debug__" : Str)) = false := by decide) (hcd : (a == ("__classdict__" : Str)) = false := by decide)
    (he : starEach (e :: es) X.env = (false, eval e X.env) :: starEach es X.env := by rfl) (hpl : (backTo pos (starEach es X.env)).any (·.1) = false := by rfl) :
    DE X W (.Call (.Name a p) (e :: es) [] pos) (rDeed i S cl ws sp ra) := by
  refine ⟨fun pins s σ H Q I h => ?_⟩
  obtain ⟨n, m, G, xd, q, hn, hs, hl, ⟨f, c, cs, hi, hra⟩, hq⟩ := h
  obtain ⟨v, h1, h2⟩ := hn.get hi
  cases h2 with
  | fn hf hc rc =>
    refine wpAny_Call_Name_kw (thn ((pe_var (pos := p) hN hv hd hcd).run pins s σ H (fun v H1 => v = .ref f ∧ H1 = H) I ⟨.ref f, h1, rfl, rfl⟩) fun u s1 ⟨v, H1, I1, r1, q1⟩ => ?_)
    obtain ⟨ev, eH⟩ := q1
    subst ev
    rw [eH] at I1
    obtain rfl : u = Value.ref f := r1
    refine PySem.W.callWith_F (first := []) (lamAt I1 (hs.sub _ _ hf)) (thn (ha.run pos pins s1 σ H (fun vs H1 => H1 f = some (LamO f S cl c) ∧ H1 c = some (CodeO c S.qual) ∧ lowL X.K sp ws vs H1 Q (WE W σ)) I1 ⟨n, m, G, xd, _, hn, hs, hl, hra, fun ds m1 vs G1 H1 e1 s1 r1 k => ?_⟩) fun us s2 ⟨vs, H2, I2, r, h1, h2, q⟩ => ⟨lamAt I2 h1, ?_⟩) he hpl
    · refine ⟨s1.sub _ _ (e1 _ _ hf), s1.sub _ _ (e1 _ _ hc), cs, ds, m1, G1, q, _, (rc.mono e1).names, r1, s1, k, fun d m' v G' H' e2 s2 r2 q2 => hq d m' v G' H' (e1.trans e2) s2 r2 q2, fun nm c fs o m' G' H' e2 s2 r2 q2 => hl nm c fs o n m' σ G' H' (e1.trans e2) s2 (hn.mono (e1.trans e2)) r2 q2⟩
    · show wpAny _ _ (call (.ref f) us) _ _ _
      have C2 : CellsAt cl fr ws s2.heap H2 := cells_un C I2.base hex
      refine wpAny_call (codeAny_mono (LM.run X.A X.stack s2 H2 us vs ws f c cl Q (WE W σ) (hr.mono hk) I2.env0 h1 h2 C2 r q) fun r s' hq => ?_)
      cases r with
      | error e => exact hx σ pins H2 s2 e s' I2 hq
      | ok fl =>
        cases fl with
        | ret u => exact I2.after hq
        | next => exact False.elim hq
        | brk => exact False.elim hq
        | cont => exact False.elim hq
end
/-! ### made -/
def rLam (P : Addr) (S : LS) (cl : List (Str × Addr)) : RE := fun _ _ m q => m P = some (.tab S.qual) ∧ ∀ f c, q (.fn f S cl c [] []) m
theorem upd_turn {H : Hp} {a b : Addr} {o u : HO} (h : a ≠ b) : upd (upd H a o) b u = upd (upd H b u) a o := by
  funext x
  by_cases h1 : x = a
  · subst h1
    rw [upd_ne h, upd_same, upd_same]
  · by_cases h2 : x = b
    · subst h2
      rw [upd_same, upd_ne h1, upd_same]
    · rw [upd_ne h2, upd_ne h1, upd_ne h1, upd_ne h2]
section
variable {X : Cx} {W : WX} {pins : List (Addr × Obj)} {σ : L2.St} {H : Hp} {s : Shared} {pos : Pos}
theorem inv_lam {S : LS} {cl : List (Str × Addr)} {c : Addr} {o : Obj} {t' : Nat} {pm ctv : Value} (I : Inv X pins σ H s) (ho : o = PySem.W.kla_obj "<lambda>" S.qual S.params S.body S.scope cl pm c ctv) :
    Inv X pins σ (upd H s.heap.objs.size (LamO s.heap.objs.size S cl c)) { s with heap := s.heap.push o, toks := t' } := by
  subst ho
  refine I.laid (a := s.heap.objs.size) (fun b u e => Heap.get?_push_of_some _ e) (Nat.le_refl _) ?_
  have e : (s.heap.push (PySem.W.kla_obj "<lambda>" S.qual S.params S.body S.scope cl pm c ctv)).get? s.heap.objs.size = some (PySem.W.kla_obj "<lambda>" S.qual S.params S.body S.scope cl pm c ctv) := Heap.get?_push_size _ rfl
  exact ⟨⟨_, _, pm, ctv, e⟩, ⟨_, e⟩, fun h1 h2 ⟨od, sl, p, t, z⟩ st => ⟨od, sl, p, t, st _ z⟩⟩
theorem de_lam {c P : Addr} {params : Arguments} {body : Expr} {scope : Scope} (TB : TabB X.base X.mg c P) (hcode : X.env.code = .ref c) (hdef : defaultsOf params X.env = ([], []))
    (hfree : ∀ y ∈ scope.names, y.2 = .free → X.env.scope.names.lookup y.1 = some .cell ∨ X.env.scope.names.lookup y.1 = some .free) :
    DE X W (.Lambda params body scope pos) (rLam P ⟨X.env.qual ++ "<lambda>", params, body, scope⟩ (cloFrom X.env.cells scope.names [])) := by
  refine ⟨fun pins s σ H Q I h => ?_⟩
  obtain ⟨n, m, G, xd, q, hn, hs, hl, ⟨hm, hr⟩, hq⟩ := h
  obtain ⟨u, hP, ro⟩ := hs.own P _ hm
  cases ro with
  | @tab _ ps ht ha =>
    have hf : ∀ y ∈ scope.names, y.2 = .free → ∃ c, X.env.cells.lookup y.1 = some c := fun y hy e => (hfree y hy e).elim (fun z => I.ok.has _ (.inl z)) fun z => I.ok.has _ (.inr z)
    refine PySem.W.kla_eval hdef ?_
    have bP : s.heap.BuiltinsAt X.mg P := TB.bm.keeps I.bk
    have hP' : s.heap.get? P = some { cls := .none, data := .fields ps } := I.hok P _ hP
    cases hc : codeAmong pos ps.toList with
    | none =>
      refine PySem.W.kla_makeFunction (mg := X.mg) (c := c) (P := P) (ps := ps) (closure_ok hf) I.ok.glob (I.mod.glob.keeps I.bk) hcode (TB.code.keeps I.bk) hP' ht hc TB.gP bP fun c' ctv h' tk hx hge hlt hrec htb => ?_
      obtain ⟨c2, oc, vs, t, e2, hoc, hd, hv⟩ := hrec
      cases e2
      have nC : H c' = none := I.hok.fresh hge
      have nPc : c' ≠ P := fun z => by rw [z, hP] at nC; cases nC
      have I1 := inv_table (t' := tk) (more := #[rawInt pos.line, rawInt pos.col, .ref c']) (h' := h') I hP (fun b o hb e => hx b o hb e) htb hge ⟨oc, vs, t, hoc, hd, hv⟩
      have nF := I1.hok.fresh (Nat.le_refl _)
      have I2 := inv_lam (S := ⟨X.env.qual ++ "<lambda>", params, body, scope⟩) (cl := cloFrom X.env.cells scope.names []) (c := c') (t' := tk) (pm := (X.mg "__name__").getD .none) (ctv := ctv) I1 rfl
      have eL : (ps ++ #[rawInt pos.line, rawInt pos.col, .ref c']).toList = ps.toList ++ [rawInt pos.line, rawInt pos.col, .ref c'] := by simp
      obtain ⟨s1, e1⟩ := hs.laid nC (CodeO c' (X.env.qual ++ "<lambda>"))
      have s2 := s1.write (a := P) hm (y := .tab (X.env.qual ++ "<lambda>")) (o := .tbl (ps ++ #[rawInt pos.line, rawInt pos.col, .ref c'])) (.tab (by rw [eL]; exact PySem.TriplesOk_snoc _ _ _ _ ht) fun p' cv hcv => by
        rw [eL] at hcv
        rcases among_app _ ht hcv with z | z
        · obtain ⟨c0, g1, g2⟩ := ha p' cv z
          exact ⟨c0, g1, e1 _ _ g2⟩
        · exact ⟨c', z, upd_same⟩)
      rw [mset_self hm, upd_turn nPc] at s2
      obtain ⟨s3, e3⟩ := s2.laid nF (LamO h'.objs.size ⟨X.env.qual ++ "<lambda>", params, body, scope⟩ (cloFrom X.env.cells scope.names []) c')
      refine ⟨.ref h'.objs.size, _, I2, rfl, hq _ m _ _ _ (e1.trans e3) s3 (.fn upd_same (e3 _ _ upd_same) .nil) (hr _ c')⟩
    | some cv =>
      obtain ⟨c', e, hco⟩ := ha pos cv hc
      subst e
      refine PySem.W.kla_makeFunctionHit (mg := X.mg) (c := c) (P := P) (ps := ps) (closure_ok hf) I.ok.glob (I.mod.glob.keeps I.bk) hcode (TB.code.keeps I.bk) hP' ht hc bP fun ctv h' tk hx hsz => ?_
      have I1 : Inv X pins σ H { s with heap := h', toks := tk } := I.kept hx
      have nF : H h'.objs.size = none := I1.hok.fresh (Nat.le_refl _)
      have I2 := inv_lam (S := ⟨X.env.qual ++ "<lambda>", params, body, scope⟩) (cl := cloFrom X.env.cells scope.names []) (c := c') (t' := tk) (pm := (X.mg "__name__").getD .none) (ctv := ctv) I1 rfl
      obtain ⟨s3, e3⟩ := hs.laid nF (LamO h'.objs.size ⟨X.env.qual ++ "<lambda>", params, body, scope⟩ (cloFrom X.env.cells scope.names []) c')
      refine ⟨.ref h'.objs.size, _, I2, rfl, hq _ m _ _ _ e3 s3 (.fn upd_same (e3 _ _ hco) .nil) (hr _ c')⟩
theorem de_lamS {c P : Addr} {params : Arguments} {body : Expr} {scope : Scope} {S : LS} {cl : List (Str × Addr)} (TB : TabB X.base X.mg c P) (hcode : X.env.code = .ref c) (hdef : defaultsOf params X.env = ([], []))
    (hfree : ∀ y ∈ scope.names, y.2 = .free → X.env.scope.names.lookup y.1 = some .cell ∨ X.env.scope.names.lookup y.1 = some .free) (eS : S = ⟨X.env.qual ++ "<lambda>", params, body, scope⟩) (ec : cl = cloFrom X.env.cells scope.names []) :
    DE X W (.Lambda params body scope pos) (rLam P S cl) := by
  subst eS
  subst ec
  exact de_lam TB hcode hdef hfree
end
/-! ### handed to a def -/
/-- the functions among the arguments: what their cells hold -/
def CellsIn (ds : List D) (h : Heap) (H : Hp) : Prop := ∃ f S cl c ws cs r, ds = .fn f S cl c ws cs :: r ∧ CellsAt cl (frOf S) ws h H
theorem CellsIn.at {f c : Addr} {S : LS} {cl : List (Str × Addr)} {ws : List (Option V)} {cs : List (Option D)} {r : List D} {h : Heap} {H : Hp} (C : CellsIn (.fn f S cl c ws cs :: r) h H) : CellsAt cl (frOf S) ws h H := by
  obtain ⟨f', S', cl', c', ws', cs', r', e, C⟩ := C
  injection e with e _
  injection e with e1 e2 e3 e4 e5 e6
  subst e2
  subst e3
  subst e5
  exact C
structure GivD (P : Program) (w : World) (K : PySem.W.Frag) (mg : Str → Option Value) (base : Heap) (k : Nat) (f : Addr) (fd : FuncData) (ps : List Str) (sp : SpD) : Prop where
  len : ∀ ds m q xf, sp ds m q xf → ds.length = ps.length
  run : ∀ (A : Around) (outer : List Env) (s : Shared) (H : Hp) (args : Args) (us : List Value) (vs : List V) (Q : VK) (E : XK), Room k A → Env0 P w K mg base A outer s H → BindsTo s fd args (ps.zip us) → Vals vs us →
    (∃ (ds : List D) (m : Mem) (G : Hp) (q : QD) (xf : XF), Reps K G ds vs ∧ Sep K G m H ∧ CellsIn ds s.heap H ∧ sp ds m q xf ∧ lowQ K G q Q ∧ LinkF K E G xf) → codeAny (model P w) A (.call (.ref f) args) (CR (L2.CX P w) outer P w H s Q E) s
section
variable {P : Program} {w : World} {K : PySem.W.Frag} {mg : Str → Option Value} {base : Heap}
theorem givD {x qual : Str} {st : Stmt} {f : Addr} {fd : FuncData} {N ps : List Str} {k : Nat} {sp : SpD} (F : Fun K x qual st f fd) (Sc : FnScope N ps (defScope st)) (len : ∀ ds m q xf, sp ds m q xf → ds.length = ps.length)
    (hbody : ∀ (cdv : Value) (A : Around) (outer : List Env) (s : Shared) (H : Hp) (E : XK), Room k (A.deeper (envOfC qual (defScope st) s.heap.objs.size f cdv)) → ∀ ds m q xf, CellsIn ds s.heap H → sp ds m q xf →
      ∃ r, DSs (cxOf (L2.CX P w) P w K mg base N qual (defScope st) f cdv A outer s H E) (WF E) (defBody st) r ∧ r (xdD xf) (enD q) (nvs N ds) m) : GivD P w K mg base (k + 1) f fd ps sp := by
  refine ⟨len, fun A outer s H args us vs Q E hr e0 hb r hsp => ?_⟩
  obtain ⟨ds, m, G, q, xf, rs, hs, hc, h, hq, hx⟩ := hsp
  obtain ⟨oc, od, kV, doc, pm, an, cdv, ct, osl, rfl, lk, hcd⟩ := F.ex
  refine run_ofS lk hcd Sc hr e0 hb r (by rw [← rs.length]; exact len _ _ _ _ h) fun hr' => ?_
  obtain ⟨rd, hd, hv⟩ := hbody cdv A outer s H E hr' ds m q xf hc h
  refine ⟨_, hd, _, m, G, _, _, ?_, hs, ?_, hv, ?_⟩
  · unfold nvs L2.start
    rw [← rs.length]
    exact RepN.start _ rs
  · exact fun nm c fs o _ m' t G' H' e1 s1 _ r1 ⟨m1, z, k⟩ => hx nm c fs o m1 G' H' e1 (s1.sub' z) r1 k
  · exact ⟨fun n m' t G' H' e1 s1 _ ⟨m1, z, k⟩ => hq .non m1 .non G' H' e1 (s1.sub' z) .non k, fun d m' v G' H' e1 s1 r1 ⟨m1, z, k⟩ => hq d m1 v G' H' e1 (s1.sub' z) r1 k, fun _ _ _ _ _ _ _ _ k => k.elim, fun _ _ _ _ _ _ _ _ k => k.elim⟩
structure CalG (P : Program) (w : World) (K : PySem.W.Frag) (mg : Str → Option Value) (base : Heap) (k : Nat) (x : Str) (ps : List Str) (sp : SpD) : Prop where
  ex : ∃ f fd, GivD P w K mg base k f fd ps sp ∧ Binds K fd ps [] ∧ mg x = some (.ref f) ∧ PySem.W.keepIn K (.ref f) = true
end
/-- x(fn, ..): the first argument is a function that was made here; what its names hold now goes with it -/
def rGive (S : Nat → LS) (C : Nat → List (Str × Addr)) (is : List Nat) (js : Nat → List Nat) (sp : SpD) (ra : RA) : RE := fun xd n m q => ra xd n m fun ds m1 => ∃ f i c ds', ds = .fn f (S i) (C i) c [] [] :: ds' ∧ i ∈ is ∧ ∀ ws, sp (.fn f (S i) (C i) c ws ((js i).map (nAt n)) :: ds') m1 q fun c fs m' => xd c fs n m'
section
variable {X : Cx} {W : WX} {p pos : Pos}
theorem de_give {j k : Nat} {ps : List Str} {sp : SpD} {x : Str} {e : Expr} {es : List Expr} {ra : RA} {S : Nat → LS} {C : Nat → List (Str × Addr)} {is : List Nat} {js : Nat → List Nat} (c : CalG X.prog X.w X.K X.mg X.base k x ps sp) (cp : ∀ i ∈ is, X.Ok → Caps X (C i) (frOf (S i)) (js i)) (hr : Room j X.A) (hk : k ≤ j) (hg : Gl X x) (hx : Pas X W)
    (ha : DA X W (e :: es) ra) (hdb : (x == ("__debug__" : Str)) = false := by decide) (he : starEach (e :: es) X.env = (false, eval e X.env) :: starEach es X.env := by rfl) (hpl : (backTo pos (starEach es X.env)).any (·.1) = false := by rfl) :
    DE X W (.Call (.Name x p) (e :: es) [] pos) (rGive S C is js sp ra) := by
  obtain ⟨f, fd, F, hb, hm, kp⟩ := c.ex
  refine ⟨fun pins s σ H Q I h => ?_⟩
  obtain ⟨n, m, G, xd, q, hn, hs, hl, hra, hq⟩ := h
  refine wpAny_Call_Name_kw (ld_glob I hg hm ?_ hdb)
  refine PySem.W.callWith_K (h₀ := X.base) I.ok.mod.kin kp (thn (ha.run pos pins s σ H (fun vs H1 => ∃ (ds : List D) (m1 : Mem) (G1 : Hp), Same G G1 ∧ Sep X.K G1 m1 H1 ∧ Reps X.K G1 ds vs ∧ ∃ f i c ds', ds = .fn f (S i) (C i) c [] [] :: ds' ∧ i ∈ is ∧ ∀ ws, sp (.fn f (S i) (C i) c ws ((js i).map (nAt n)) :: ds') m1 q fun c fs m' => xd c fs n m') I ⟨n, m, G, xd, _, hn, hs, hl, hra, fun ds m1 vs G1 H1 e1 s1 r1 k => ⟨ds, m1, G1, e1, s1, r1, k⟩⟩) fun us s1 ⟨vs, H1, I1, r, hv⟩ => ⟨I1.kIn, ?_⟩) he hpl
  obtain ⟨ds, m1, G1, e1, s1', r1, f1, i, c1, ds', rfl, hi, hsp⟩ := hv
  cases r1 with
  | @cons _ v _ vs' rf rr =>
  cases rf with
  | fn hf hc _ =>
  have hcell := cells_of I1 (cp i hi I1.ok)
  have hsp := hsp ((js i).map (slotAt σ))
  have hlv : us.length = ps.length := by
    rw [← r.length]
    have := F.len _ _ _ _ hsp
    rw [← this, List.length_cons, List.length_cons, rr.length]
  have b := hb s1 us I1.kIn (by rw [List.append_nil]; exact hlv)
  rw [List.append_nil] at b
  refine wpAny_call (codeAny_mono (F.run X.A X.stack s1 H1 ⟨us, []⟩ us _ Q (WE W σ) (hr.mono hk) I1.env0 b r ⟨_, m1, G1, q, _, .cons (.fn hf hc ((hn.mono e1).slots (js i)).cap) rr, s1', ?_, hsp, fun d m' v G' H' e2 s2 r2 q2 => hq d m' v G' H' (e1.trans e2) s2 r2 q2, fun nm c fs o m' G' H' e2 s2 r2 q2 => hl nm c fs o n m' σ G' H' (e1.trans e2) s2 (hn.mono (e1.trans e2)) r2 q2⟩) fun r s' hq => ?_)
  · exact ⟨f1, S i, C i, c1, _, _, ds', rfl, hcell⟩
  · cases r with
    | error e => exact hx σ pins H1 s1 e s' I1 hq
    | ok fl =>
      cases fl with
      | ret u => exact I1.after hq
      | next => exact False.elim hq
      | brk => exact False.elim hq
      | cont => exact False.elim hq
end
/-! ### the parts of a text -/
def sBody : Stmt → List Stmt
  | .FunctionDef (body := b) .. => b
  | .For (body := b) .. => b
  | .While (body := b) .. => b
  | .If (body := b) .. => b
  | .Try (body := b) .. => b
  | .With (body := b) .. => b
  | _ => []
def sElse : Stmt → List Stmt
  | .If (orelse := b) .. => b
  | _ => []
def sAt (l : List Stmt) (i : Nat) : Stmt := l.getD i (.Pass ⟨0, 0, 0, 0⟩)
def noE : Expr := .Constant .none 0 ⟨0, 0, 0, 0⟩
def sEx : Stmt → Expr
  | .Return (value := some e) .. => e
  | .Assign (value := e) .. => e
  | .For (iter := e) .. => e
  | .While (test := e) .. => e
  | .If (test := e) .. => e
  | .Expr (value := e) .. => e
  | _ => noE
def eKids : Expr → List Expr
  | .BoolOp (values := l) .. => l
  | .BinOp (left := a) (right := b) .. => [a, b]
  | .UnaryOp (operand := a) .. => [a]
  | .IfExp (test := a) (body := b) (orelse := c) .. => [a, b, c]
  | .Compare (left := a) (comparators := l) .. => a :: l
  | .Call (func := a) (args := l) .. => a :: l
  | .Subscript (value := a) .. => [a]
  | .Attribute (value := a) .. => [a]
  | .List (elts := l) .. => l
  | .Tuple (elts := l) .. => l
  | _ => []
def eAt (e : Expr) (i : Nat) : Expr := (eKids e).getD i noE
def lsOf (q : Str) : Expr → LS
  | .Lambda p b s _ => ⟨q, p, b, s⟩
  | _ => ⟨q, ⟨[], [], none, [], [], none, []⟩, noE, ⟨.function, [], false, false, []⟩⟩
end DL

/-! DL45: the lambdas of a law: who makes them, who gets them, the end -/
namespace DL
open PySem PySem.Spec PyProof.Rows L2 LamX NdefX
/-- the lambdas of a law by number: their words, the tables of their makers -/
structure LamE where
  S : Nat → LS
  P : Nat → Addr
def Tbs (L : LamE) (n : Nat) (m : Mem) : Prop := ∀ i, i < n → m (L.P i) = some (.tab (L.S i).qual)
theorem Tbs.sub {L : LamE} {n : Nat} {m m' : Mem} (t : Tbs L n m) (h : Sub m m') : Tbs L n m' := fun i hi => by
  obtain ⟨y, e, l⟩ := h _ _ (t i hi)
  cases l
  exact e
theorem Tbs.set {L : LamE} {n : Nat} {m : Mem} {a : Addr} {o : MO} (t : Tbs L n m) (h : ∀ q, m a ≠ some (.tab q)) : Tbs L n (mset m a o) := fun i hi => by
  rw [mset_ne (fun z => h _ (by rw [← z]; exact t i hi))]
  exact t i hi
/-- what a def that gets one is told -/
def spT (L : LamE) (n : Nat) (sq : Nat → List (Option D) → SpD) : SpD := fun ds m q xf => ∃ f i cl c ws cs r, ds = .fn f (L.S i) cl c ws cs :: r ∧ i < n ∧ sq i cs r m q xf
/-- a def of the text whose code object is known -/
structure FunC (K : PySem.W.Frag) (x qual : Str) (st : Stmt) (f : Addr) (fd : FuncData) (c : Addr) : Prop where
  ex : ∃ (oc : Value) (od : Option Addr) (kV doc pm : Value) (an : Option Addr) (ct : Value) (osl : Array (Option Value)),
    fd = PySem.W.fnOf x qual (defArgs st) (defBody st) (defScope st) .none kV doc pm an (.ref c) ct ∧ K.lookup f = some ⟨oc, od, .func fd, osl⟩ ∧ PySem.W.codeIn K (.ref c) qual = true
  kp : PySem.W.keepIn K (.ref f) = true
theorem FunC.fn {K : PySem.W.Frag} {x qual : Str} {st : Stmt} {f : Addr} {fd : FuncData} {c : Addr} (F : FunC K x qual st f fd c) : Fun K x qual st f fd := by
  obtain ⟨oc, od, kV, doc, pm, an, ct, osl, h1, h2, h3⟩ := F.ex
  exact ⟨⟨oc, od, kV, doc, pm, an, _, ct, osl, h1, h2, h3⟩, F.kp⟩
section
variable {P : Program} {w : World} {K : PySem.W.Frag} {mg : Str → Option Value} {base : Heap}
theorem funC_mk {x qual : Str} {st : Stmt} {f c : Addr} {oc : Value} {od an : Option Addr} {osl : Array (Option Value)} {kV doc pm ct : Value} (l : K.lookup f = some ⟨oc, od, .func (PySem.W.fnOf x qual (defArgs st) (defBody st) (defScope st) .none kV doc pm an (.ref c) ct), osl⟩)
    (h : PySem.W.codeIn K (.ref c) qual = true) (k : PySem.W.keepIn K (.ref f) = true) : FunC K x qual st f (PySem.W.fnOf x qual (defArgs st) (defBody st) (defScope st) .none kV doc pm an (.ref c) ct) c := ⟨⟨oc, od, kV, doc, pm, an, ct, osl, rfl, l, h⟩, k⟩
/-- THE RULE for a def that makes lambdas -/
theorem fnSC {x qual : Str} {st : Stmt} {f c : Addr} {fd : FuncData} {N ps : List Str} {k : Nat} {sp : SpD} (F : FunC K x qual st f fd c) (S : FnScope N ps (defScope st)) (len : ∀ ds m q xf, sp ds m q xf → ds.length = ps.length)
    (hbody : ∀ (A : Around) (outer : List Env) (s : Shared) (H : Hp) (E : XK), Room k (A.deeper (envOfC qual (defScope st) s.heap.objs.size f (.ref c))) →
      ∃ r, DSs (cxOf (L2.CX P w) P w K mg base N qual (defScope st) f (.ref c) A outer s H E) (WF E) (defBody st) r ∧ ∀ ds m q xf, sp ds m q xf → r (xdD xf) (enD q) (nvs N ds) m) : FnD P w K mg base (k + 1) f fd ps sp := by
  obtain ⟨oc, od, kV, doc, pm, an, ct, osl, rfl, lk, hcd⟩ := F.ex
  refine fn_of lk hcd S (fun vs H Q E ⟨ds, m, G, q, xf, hr, hs, h, _⟩ => by rw [← hr.length]; exact len ds m q xf h) fun A outer s H vs Q E hr ⟨ds, m, G, q, xf, rs, hs, h, hq, hx⟩ => ?_
  obtain ⟨r, hd, hv⟩ := hbody A outer s H E hr
  refine ⟨_, hd, _, m, G, _, _, ?_, hs, ?_, hv ds m q xf h, ?_⟩
  · unfold nvs L2.start
    rw [← rs.length]
    exact RepN.start _ rs
  · exact fun nm c fs o _ m' t G' H' e1 s1 _ r1 ⟨m1, z, k⟩ => hx nm c fs o m1 G' H' e1 (s1.sub' z) r1 k
  · exact ⟨fun n m' t G' H' e1 s1 _ ⟨m1, z, k⟩ => hq .non m1 .non G' H' e1 (s1.sub' z) .non k, fun d m' v G' H' e1 s1 r1 ⟨m1, z, k⟩ => hq d m1 v G' H' e1 (s1.sub' z) r1 k, fun _ _ _ _ _ _ _ _ k => k.elim, fun _ _ _ _ _ _ _ _ k => k.elim⟩
end
theorem LamD.mono {P : Program} {w : World} {K : PySem.W.Frag} {mg : Str → Option Value} {base : Heap} {k j : Nat} {S : LS} {ps fr : List Str} {sp : List (Option D) → SpD} (h : LamD P w K mg base k S ps fr sp) (hk : k ≤ j) : LamD P w K mg base j S ps fr sp :=
  ⟨fun A outer s H us vs ws f c cl Q E hr => h.run A outer s H us vs ws f c cl Q E (hr.mono hk)⟩
/-! ### looks at scopes -/
def freeB (sc : Scope) (names : List (Str × NameKind)) : Bool := names.all fun y => !decide (y.2 = .free) || decide (sc.names.lookup y.1 = some .cell) || decide (sc.names.lookup y.1 = some .free)
theorem free_by {sc : Scope} {names : List (Str × NameKind)} (h : freeB sc names = true) : ∀ y ∈ names, y.2 = .free → sc.names.lookup y.1 = some .cell ∨ sc.names.lookup y.1 = some .free := fun y hy e => by
  unfold freeB at h
  simp only [List.all_eq_true, Bool.or_eq_true, Bool.not_eq_true', decide_eq_true_eq, decide_eq_false_iff_not] at h
  rcases h y hy with (z | z) | z
  · exact absurd e z
  · exact .inl z
  · exact .inr z
def capB (sc : Scope) (N : List Str) (S : LS) (js : List Nat) : Bool := freeB sc S.scope.names && decide (js.map (fun j => N[j]?) = (frOf S).map some)
theorem caps_by {X : Cx} {S : LS} {js : List Nat} (ok : X.Ok) (h : capB X.env.scope X.N S js = true) : Caps X (cloFrom X.env.cells S.scope.names []) (frOf S) js := by
  unfold capB at h
  simp only [Bool.and_eq_true, decide_eq_true_eq] at h
  refine Caps.made ok (free_by h.1) (fun y hy => ?_) h.2
  unfold frOf at hy
  obtain ⟨z, hz, e⟩ := List.mem_map.mp hy
  obtain ⟨h1, h2⟩ := List.mem_filter.mp hz
  obtain ⟨z1, z2⟩ := z
  have e : z1 = y := e
  have h2 : z2 = .free := by simpa using h2
  rw [e, h2] at h1
  exact h1
/-- .. of each of some lambdas -/
theorem capsAll {X : Cx} {S : Nat → LS} {is : List Nat} {js : Nat → List Nat} (h : is.all (fun i => capB X.env.scope X.N (S i) (js i)) = true) : ∀ i ∈ is, X.Ok → Caps X (cloFrom X.env.cells (S i).scope.names []) (frOf (S i)) (js i) := fun i hi ok => caps_by ok (List.all_eq_true.mp h i hi)
/-! ### the end -/
theorem look_mem {b : Addr} {q : Str} : ∀ {T : List (Addr × Str)}, T.lookup b = some q → (b, q) ∈ T
  | [], e => by cases e
  | (a, r) :: T, e => by
    rw [List.lookup_cons] at e
    cases h : b == a with
    | true =>
      rw [h] at e
      cases e
      rw [eq_of_beq h]
      exact .head _
    | false =>
      rw [h] at e
      exact .tail _ (look_mem e)
def tabM (T : List (Addr × Str)) : Mem := fun b => (T.lookup b).map .tab
theorem tabM_mem {T : List (Addr × Str)} {b : Addr} {o : MO} (h : tabM T b = some o) : ∃ q, (b, q) ∈ T ∧ o = .tab q := by
  unfold tabM at h
  cases e : T.lookup b with
  | none => rw [e] at h; cases h
  | some q =>
    rw [e] at h
    cases h
    exact ⟨q, look_mem e, rfl⟩
theorem tabM_at {b : Addr} {q : Str} : ∀ {T : List (Addr × Str)}, (T.map (·.1)).Nodup → (b, q) ∈ T → tabM T b = some (.tab q)
  | [], _, h => by cases h
  | (a, r) :: T, nd, h => by
    rw [List.map_cons, List.nodup_cons] at nd
    unfold tabM
    rw [List.lookup_cons]
    rcases List.mem_cons.mp h with e | e
    · cases e
      rw [beq_self_eq_true]
      rfl
    · have ne : (b == a) = false := by
        rw [beq_eq_false_iff_ne]
        intro z
        subst z
        exact nd.1 (List.mem_map.mpr ⟨_, e, rfl⟩)
      rw [ne]
      exact tabM_at nd.2 e
/-- the start of a law: the script, empty tables -/
theorem law_hereT {K : PySem.W.Frag} {H : Hp} {a : Addr} {ns : List Int} {T : List (Addr × Str)} {sp : SpD} (hT : ∀ p ∈ T, H p.1 = some (.tbl #[])) (hS : SqL K H a (ns.map V.int)) (h : sp [.scr ns] (tabM T) (fun d _ => d = .bl true) fun _ _ _ => False) : lowSp K sp [.ref a] H (fun v _ => v = .bl true) fun _ _ _ => False := by
  have hs : Same (fun b => if b ∈ T.map (·.1) then none else H b) H := fun b u e => by
    by_cases z : b ∈ T.map (·.1)
    · exact absurd ((if_pos z).symm.trans e) (by simp)
    · exact (if_neg z).symm.trans e
  refine ⟨[.scr ns], tabM T, fun b => if b ∈ T.map (·.1) then none else H b, fun d _ => d = .bl true, fun _ _ _ => False, .cons (.scr ?_) .nil, ⟨hs, fun b z e => ?_, fun b z e => ?_⟩, h, fun d m v G H _ _ r e => by
    subst e
    cases r
    rfl, fun _ _ _ _ _ _ _ _ _ _ h => h⟩
  · have ne : ∀ u, H a = some u → u ≠ .tbl #[] → a ∉ T.map (·.1) := fun u e n z => by
      obtain ⟨p, hp, e2⟩ := List.mem_map.mp z
      have := hT p hp
      rw [e2, e] at this
      exact n (Option.some.inj this)
    rcases hS with (e | ⟨o, e⟩) | e
    · exact .inl (.inl ((if_neg (ne _ e (fun z => by cases z))).trans e))
    · exact .inl (.inr ⟨o, (if_neg (ne _ e (fun z => by cases z))).trans e⟩)
    · exact .inr e
  · obtain ⟨q, hq, _⟩ := tabM_mem e
    exact if_pos (List.mem_map.mpr ⟨_, hq, rfl⟩)
  · obtain ⟨q, hq, e2⟩ := tabM_mem e
    subst e2
    exact ⟨_, hT _ hq, .tab True.intro fun pos cv hc => by
      have z : codeAmong pos [] = some cv := hc
      simp [codeAmong] at z⟩
theorem tabs_out {K : PySem.W.Frag} {h : Heap} {P : Addr} (X : K.In h) (hK : PySem.W.noTabs K = true) (e : h.get? P = some (PySem.W.tabObj #[])) : K.lookup P = none := by
  cases q : K.lookup P with
  | none => rfl
  | some o =>
    have e1 := X _ _ q
    rw [e] at e1
    cases e1
    have h2 := List.all_eq_true.mp hK _ (PySem.W.mem_of_lookupK q)
    cases h2
theorem tabIn_of {K : PySem.W.Frag} {x : Str} {f c P : Addr} {oc e : Value} {od dd : Option Addr} {osl sl : Array (Option Value)} {fd : FuncData} {vs : Array Value} (a : PySem.W.nsIn K mainGlobals x = some (some (.ref f))) (l : K.lookup f = some ⟨oc, od, .func fd, osl⟩) (hc : fd.code = .ref c) (lc : K.lookup c = some ⟨e, dd, .fields vs, sl⟩) (hv : vs[11]? = some (.ref P)) : PySem.W.tabIn K x = some (c, P) := by
  unfold PySem.W.tabIn
  simp only [a, l, hc, lc, hv]
/-- the head's word on the tables of the defs ms -/
def TabsOf (K : PySem.W.Frag) (ms : List Str) (h : Heap) : Prop := ∀ x ∈ ms, ∀ c P, PySem.W.tabIn K x = some (c, P) → PySem.W.CodeHd h c P ∧ h.get? P = some (PySem.W.tabObj #[])
theorem walk_ofG {l : PySem.W.OpenLaw} {n k : Nat} {q : Program} {loose : List Str} {XP : (Str → Option Value) → Heap → Prop} {YP : World → Heap → Prop} {d : DefRec} {K : Params → PySem.W.Frag} {CX : World → CXT} {x : Str} (ms : List Str)
    (hn : l.most = some n) (hn2 : n ≤ sizeLine) (hdf : d.params.defaults = []) (hr : Room k callerA) (hrec : ms.all (fun x => ((recsOf q).find? fun e => e.name == x).isSome) = true) (hY : ∀ (w : World) (h : Heap), YP w h → (K w.params).In h)
    (F : ∀ (w : World) (mg : Str → Option Value) (fa : Addr) (h : Heap), (K w.params).In h → h.Ns mainGlobals mg → mg d.name = some (.ref fa) → TabsOf (K w.params) ms h → LawAtS l w (K w.params) (CX w) k n x mg fa h)
    (hCX : ∀ (w : World) (H : Hp) (s : Shared) (e : Value) (s' : Shared), CX w [] H s (fun _ _ _ => False) e s' → False) :
    PySem.W.WalkO q loose XP YP l.row.toRowW d [] (fun f vs => PySem.call f vs) := by
  refine Att.attach_callB hn hdf fun w s₀ s₁ mg mb fa o pm cd doc a vs ns G Y ho hd hcd hmg hobj hints hlen hbits hg => ?_
  have KX := hY w _ Y
  have T : TabsOf (K w.params) ms s₁.heap := fun x hx c P ht => by
    have := List.all_eq_true.mp hrec x hx
    cases e : (recsOf q).find? fun e => e.name == x with
    | none => rw [e] at this; cases this
    | some dr => exact PySem.W.tab_of G.T KX e ht
  obtain ⟨fd, cs, sp, hT, nT, C, hb, hsp, hF⟩ := F w mg fa _ KX G.T.g hmg T
  exact law_callTs KX G.T.g G.T.b G.T.builtins G.T.nolimit hg hT nT C G.T.bmain hobj hints (Nat.le_trans hlen hn2) hr hF hb (fun H hH hS => hsp H a ns hlen hbits hH hS) fun H e s' => hCX w H s₁ e s'
end DL

/-! DL46: d[k] = v where k may be there -/
namespace DL
open PySem PySem.Spec PyProof.Rows L2
/-- the dict behind d[k] = v -/
def storU (kvs : List (D × D)) (i : D) (k : NestedKey) (v : D) : List (D × D) := if (getT kvs k).isSome then kvs.map fun p => if nkOf p.1 = some k then (p.1, v) else p else kvs ++ [(i, v)]
theorem storU_new {kvs : List (D × D)} {i v : D} {k : NestedKey} (h : getT kvs k = none) : storU kvs i k v = kvs ++ [(i, v)] := by
  unfold storU
  rw [h]
  rfl
theorem storU_len {kvs : List (D × D)} {i v : D} {k : NestedKey} : (storU kvs i k v).length ≤ kvs.length + 1 := by
  unfold storU
  split
  · rw [List.length_map]
    omega
  · rw [List.length_append]
    exact Nat.le_refl _
def putV (k : NestedKey) (v : V) (x : NestedKey × Addr × V) : NestedKey × Addr × V := if x.1 = k then (x.1, x.2.1, v) else x
section
variable {K : PySem.W.Frag} {G : Hp}
theorem RepT.put {k : NestedKey} {e : D} {v : V} (r : Rep K G e v) : ∀ {kvs : List (D × D)} {xs : List (NestedKey × Addr × V)}, RepT K G kvs xs → RepT K G (kvs.map fun p => if nkOf p.1 = some k then (p.1, e) else p) (xs.map (putV k v))
  | _, _, .nil => .nil
  | _, _, .cons (d := d) (e := e0) (k := k') ek hd ra rv t => by
    rw [List.map_cons, List.map_cons]
    unfold putV
    by_cases h : k' = k
    · subst h
      rw [if_pos ek, if_pos rfl]
      exact .cons ek hd ra r (RepT.put r t)
    · rw [if_neg (by rw [ek]; exact fun z => h (Option.some.inj z)), if_neg h]
      exact .cons ek hd ra rv (RepT.put r t)
theorem putV_keys (k : NestedKey) (v : V) (xs : List (NestedKey × Addr × V)) : (xs.map (putV k v)).map (·.1) = xs.map (·.1) := by
  rw [List.map_map]
  congr 1
  funext x
  show (putV k v x).1 = x.1
  unfold putV
  split <;> rfl
theorem zipT_put {k : NestedKey} {v : V} {u : Value} (rv : RelV v u) : ∀ {xs : List (NestedKey × Addr × V)} {us : List Value}, Vals (xs.map (·.2.2)) us → ∃ us', Vals ((xs.map (putV k v)).map (·.2.2)) us' ∧ (zipT xs us).map (putAt k u) = zipT (xs.map (putV k v)) us'
  | [], _, r => by
    cases r
    exact ⟨[], .nil, rfl⟩
  | x :: xs, _, r => by
    cases r with
    | @cons _ u0 _ us a b =>
      obtain ⟨us', h1, h2⟩ := zipT_put (k := k) rv b
      by_cases h : x.1 = k
      · refine ⟨u :: us', ?_, ?_⟩
        · rw [List.map_cons, List.map_cons]
          refine .cons ?_ h1
          unfold putV
          rw [if_pos h]
          exact rv
        · rw [zipT_cons, List.map_cons, List.map_cons, zipT_cons, h2]
          unfold putAt putV
          rw [if_pos h, if_pos h]
      · refine ⟨u0 :: us', ?_, ?_⟩
        · rw [List.map_cons, List.map_cons]
          refine .cons ?_ h1
          unfold putV
          rw [if_neg h]
          exact a
        · rw [zipT_cons, List.map_cons, List.map_cons, zipT_cons, h2]
          unfold putAt putV
          rw [if_neg h, if_neg h]
end
section
variable {X : Cx} {W : WX} {pos : Pos} {e : Expr} {re : RE}
/-- .. by values -/
def rPutU (K : PySem.W.Frag) : TSet := fun o i v H Q => ∃ p a ds xs kvs k, o = .ref p ∧ i = .ref a ∧ (∃ ep, H p = some (dNo p ep xs)) ∧ RepT K H kvs xs ∧ (xs.map (·.1)).Nodup ∧ xs.length < sizeLine ∧ nkOf (.tup ds) = some k ∧ k.depth ≤ 8 ∧ Rep K H (.tup ds) (.ref a) ∧ (∃ z, getT kvs k = some z) ∧ ∀ ep, Q (upd H p (dNo p ep (xs.map (putV k v))))
theorem set_U (hu : X.A.units + 64 < cLine) : PSet X (rPutU X.K) := by
  intro pins s σ H o i v ov iv u Q I ro ri rv h
  obtain ⟨p, a, ds, xs, kvs, k, rfl, rfl, ⟨ep0, hp⟩, rt, nd, hz, ek, hd, ra, ⟨z, hn⟩, q⟩ := h
  cases ro
  cases ri
  obtain ⟨us, hv, hD⟩ := keyed_at I hp rt nd
  have hk' : (nestedKind X.prog X.w).is s.heap k a := ⟨nk_is I ra rfl ek, hd⟩
  obtain ⟨pv, hno⟩ : ∃ pv, atKey (zipT xs us) k = some pv := by
    rcases getT_at (k := k) rt hv with ⟨h1, h2⟩ | ⟨_, _, _, _, h1, h2, _⟩
    · rw [hn] at h1
      cases h1
    · exact ⟨_, h2⟩
  have hl : (zipT xs us).length ≤ sizeLine := by
    unfold zipT
    rw [List.length_map, List.length_zip]
    omega
  refine wpAny_setItem_heap (hsz := hl) (show X.A.in1.units + 8 < cLine by simp only [Around.in1]; omega) hk' hD fun h' hD' hsb => ?_
  obtain ⟨us', hv', e'⟩ := zipT_put (k := k) rv hv
  rw [storedH_old hno, e'] at hD'
  obtain ⟨o', es, ep, ho, hx, hdt, he, _, _⟩ := hD'
  rw [zip_entry] at he
  refine ⟨_, I.write (x := p) (e := p) (o := dNo p ep (xs.map (putV k v))) (by rw [hp]; exact True.intro) (.inl rfl) (fun b ob hb eb => (hsb.2 b hb).trans eb) ⟨o', ho⟩ (dno_ok hv' ⟨o', es, ho, hx, hdt, he⟩), q ep⟩
theorem pset_or {r1 r2 : TSet} (h1 : PSet X r1) (h2 : PSet X r2) : PSet X (fun o i v H Q => r1 o i v H Q ∨ r2 o i v H Q) := by
  intro pins s σ H o i v ov iv u Q I ro ri rv h
  rcases h with h | h
  · exact h1 pins s σ H o i v ov iv u Q I ro ri rv h
  · exact h2 pins s σ H o i v ov iv u Q I ro ri rv h
/-- d[k] = v -/
def rSetU (ro ri rv : RE) : RS := fun xd e n m => rv xd n m fun v m1 => ro xd n m1 fun o m2 => ri xd n m2 fun i m3 => ∃ p kvs ds k, o = .ref p ∧ i = .tup ds ∧ m3 p = some (.dct true kvs) ∧ nkOf i = some k ∧ k.depth ≤ 8 ∧ kvs.length < sizeLine ∧ e.nx n (mset m3 p (.dct true (storU kvs i k v)))
theorem ds_setU (hu : X.A.units + 64 < cLine) {o i : Expr} {ro ri : RE} {pos' : Pos} (ho : DE X W o ro) (hi : DE X W i ri) (he : DE X W e re) (ha : ∀ v, assign (.Subscript o i pos') X.env v = (do
      let ov ← holding [v] (eval o X.env)
      let iv ← holding [v, ov] (eval i X.env)
      standAt pos'
      holding [v, ov, iv] (setItem ov iv v)
      release [v, ov, iv] []) := by intro _; rfl) (hs : swapsWithSole [.Subscript o i pos'] e pos.line X.env = pure false := by rfl) (hw : swappedStores [.Subscript o i pos'] e X.env = pure none := by rfl)
    (h1 : (assignEach [.Subscript o i pos'] X.env).map (·.2) = [assign (.Subscript o i pos') X.env] := by rfl) : DS X W (.Assign [.Subscript o i pos'] e pos) (rSetU ro ri re) :=
  PS.imp (ps_asg he (pg_sub ho hi (pset_or (set_T hu) (set_U hu)) ha) hs hw h1) fun D t H ⟨n, m, G, xd, e, hn, hs, hl, hr, L⟩ =>
    ⟨n, m, G, xd, _, hn, hs, hl, hr, fun d m1 v G1 H1 e1 s1 r1 k => ⟨n, m1, G1, xd, _, hn.mono e1, s1, hl.mono e1, k, fun d2 m2 v2 G2 H2 e2 s2 r2 k2 =>
      ⟨n, m2, G2, xd, _, hn.mono (e1.trans e2), s2, hl.mono (e1.trans e2), k2, fun d3 m3 v3 G3 H3 e3 s3 r3 ⟨p, kvs, ds, ky, eo, ei, mp, ek, hd, hz, k3⟩ => by
        subst eo ei
        cases r2
        obtain ⟨u, h1, r4⟩ := s3.own p _ mp
        cases r4 with
        | dT z l nd rt =>
          cases r3 with
          | tup ea ra =>
            rename_i a vs
            have rv := r1.mono (e2.trans e3)
            cases hn2 : getT kvs ky with
            | none =>
              rw [storU_new hn2] at k3
              refine .inl ⟨p, a, ds, _, kvs, ky, rfl, rfl, ⟨_, h1⟩, rt.mono s3.sub, nd, by rw [← rt.length]; exact hz, ek, hd, (Rep.tup ea ra).mono s3.sub, hn2, fun ep => ?_⟩
              refine L.nx n _ t G3 _ (e1.trans (e2.trans e3)) (s3.write mp (.dT z ?_ ?_ (rt.snoc ek hd (.tup ea ra) rv))) (hn.mono (e1.trans (e2.trans e3))) k3
              · rw [List.length_append, ← rt.length]
                exact hz
              · rw [List.map_append, List.nodup_append]
                refine ⟨nd, by simp, fun a ha b hb => ?_⟩
                have hb : b = ky := by simpa using hb
                subst hb
                exact fun z => getT_none rt hn2 (z ▸ ha)
            | some old =>
              unfold storU at k3
              rw [hn2] at k3
              refine .inr ⟨p, a, ds, _, kvs, ky, rfl, rfl, ⟨_, h1⟩, rt.mono s3.sub, nd, by rw [← rt.length]; exact hz, ek, hd, (Rep.tup ea ra).mono s3.sub, ⟨_, hn2⟩, fun ep => ?_⟩
              refine L.nx n _ t G3 _ (e1.trans (e2.trans e3)) (s3.write mp (.dT z ?_ ?_ (rt.put rv))) (hn.mono (e1.trans (e2.trans e3))) k3
              · rw [List.length_map]
                exact l
              · rw [putV_keys]
                exact nd⟩⟩⟩
end
end DL

/-! DL47: d.get(k, v), d.setdefault(k, v), list(d.values()) -/
namespace DL
open PySem PySem.Spec PyProof.Rows L2
section
variable {X : Cx} {W : WX} {pos : Pos}
/-! ### d.get(k, v) -/
def gGetE : D → List D → Mem → QD → Prop := fun x ds m q => ∃ kvs es k dv, dctOf x m = some (true, kvs) ∧ ds = [.tup es, dv] ∧ nkOf (.tup es) = some k ∧ k.depth ≤ 8 ∧ q ((getT kvs k).getD dv) m
theorem md_getE (hu : X.A.units + 64 < cLine) : MtR X "dict.get" (lowM X.K gGetE) := by
  intro pins s σ H x xs v us Q I rx rv ⟨d, ds, m, G, q, hd, hr, hs, ⟨kvs, es, k, dv, e, eds, ek, hk, kq⟩, hq⟩
  subst eds
  obtain ⟨p, ys, rfl, ⟨ep, hp⟩, z, l, nd, rt⟩ := dctT_at hs hd e
  cases rx
  cases hr with
  | cons h r =>
    cases r with
    | cons hdv r =>
    cases r
    cases h with
    | tup e1 r1 =>
      cases rv with
      | cons rv1 rv2 =>
        cases rv2 with
        | cons rv2 rv3 =>
        cases rv3
        cases rv1
        have rt' := rt.mono hs.sub
        obtain ⟨ws, hv, hD⟩ := keyed_at I hp rt' nd
        have hk' : (nestedKind X.prog X.w).is s.heap k _ := ⟨nk_is I ((Rep.tup e1 r1).mono hs.sub) rfl ek, hk⟩
        refine getOr_keyed (show X.A.in1.units + 8 < cLine by simp only [Around.in1]; omega) hk' z ⟨_, hD, rfl⟩ ?_
        rw [valueAt_pairsH]
        rcases getT_at (X := X) (H := G) (k := k) rt hv with ⟨h1, h2⟩ | ⟨e', v', a', u', h1, h2, h3, h4⟩
        · rw [h2]
          rw [h1] at kq
          exact ⟨_, H, I.tok _, rv2, hq _ m _ G H (Same.refl G) hs hdv kq⟩
        · rw [h2]
          rw [h1] at kq
          exact ⟨v', H, I.tok _, h4, hq _ m _ G H (Same.refl G) hs h3 kq⟩
def rGetE (ro : RE) (ra : RA) : RE := fun xd n m q => ro xd n m fun x m1 => (∃ kvs, dctOf x m1 = some (true, kvs)) ∧ ra xd n m1 fun ds m2 => gGetE x ds m2 q
theorem de_getE {o e : Expr} {es : List Expr} {ro : RE} {ra : RA} {apos cpos : Pos} (hu : X.A.units + 64 < cLine) (ho : DE X W o ro) (ha : DA X W (e :: es) ra)
    (hbase : attributeBase o "get" X.env (eval o X.env) = eval o X.env := by rfl)
    (hfew : ((backTo cpos (starEach (e :: es) X.env)).all (fun x => !x.1) && (backToKw cpos (keywordEach [] X.env)).all (fun x => x.1.isSome)
      && decide ((e :: es).length + ([] : List Keyword).length + (if ([] : List Keyword).isEmpty then 0 else 1) < 30)) = true := by rfl)
    (hline : (apos.endLine == cpos.line) = true := by rfl) (hs : starEach (e :: es) X.env = (false, eval e X.env) :: starEach es X.env := by rfl) (hplain : (backTo cpos (starEach es X.env)).any (·.1) = false := by rfl) :
    DE X W (.Call (.Attribute o "get" apos) (e :: es) [] cpos) (rGetE ro ra) :=
  PE.imp (pe_bmT PySem.F.slot_dict_get PySem.F.type_dict_get (md_getE hu) ho ha hbase hfew hline hs hplain) fun t H Q ⟨n, m, G, xd, q, hn, hs, hl, hr, hq⟩ =>
    ⟨n, m, G, xd, _, hn, hs, hl, hr, fun d m1 v G1 H1 e1 s1 r1 ⟨⟨kvs, ed⟩, q1⟩ => ⟨by
      obtain ⟨p, xs, rfl, ⟨ep, hp⟩, _⟩ := dctT_at s1 r1 ed
      exact ⟨p, xs, ep, rfl, hp⟩, n, m1, G1, xd, _, hn.mono e1, s1, hl.mono e1, q1, fun ds m2 vs G2 H2 e2 s2 r2 q2 => ⟨d, ds, m2, G2, q, r1.mono e2, r2, s2, q2, fun d m' v G' H' e3 s3 r3 q3 => hq d m' v G' H' (e1.trans (e2.trans e3)) s3 r3 q3⟩⟩⟩
/-! ### d.setdefault(k, v) -/
def gSetDef : D → List D → Mem → QD → Prop := fun x ds m q => ∃ p kvs es k dv, x = .ref p ∧ m p = some (.dct true kvs) ∧ ds = [.tup es, dv] ∧ nkOf (.tup es) = some k ∧ k.depth ≤ 8 ∧ kvs.length < sizeLine ∧ (∀ z, getT kvs k = some z → q z m) ∧ (getT kvs k = none → q dv (mset m p (.dct true (kvs ++ [(.tup es, dv)]))))
theorem md_setDef (hu : X.A.units + 64 < cLine) : MtR X "dict.setdefault" (lowM X.K gSetDef) := by
  intro pins s σ H x xs v us Q I rx rv ⟨d, ds, m, G, q, hd, hr, hs, ⟨p, kvs, es, k, dv, ex, mp, eds, ek, hk, hz, kq1, kq2⟩, hq⟩
  subst eds ex
  cases hd
  obtain ⟨u, h1, r4⟩ := hs.own p _ mp
  cases r4 with
  | @dT ep _ ys z l nd rt =>
  cases rx
  cases hr with
  | cons h r =>
    cases r with
    | @cons _ v0 _ _ hdv r =>
    cases r
    cases h with
    | @tup a _ _ e1 r1 =>
      cases rv with
      | cons rv1 rv2 =>
        cases rv2 with
        | @cons _ u0 _ _ rv2 rv3 =>
        cases rv3
        cases rv1
        have rt' := rt.mono hs.sub
        obtain ⟨ws, hv, hD⟩ := keyed_at I h1 rt' nd
        have hk' : (nestedKind X.prog X.w).is s.heap k _ := ⟨nk_is I ((Rep.tup e1 r1).mono hs.sub) rfl ek, hk⟩
        have hl : (zipT ys ws).length ≤ sizeLine := by
          unfold zipT
          rw [List.length_map, List.length_zip]
          omega
        refine call_setdefault_heap (hsz := hl) (show X.A.in1.units + 8 < cLine by simp only [Around.in1]; omega) hk' z hD (fun pv hp => ?_) fun hno h' hD' hsb => ?_
        · rcases getT_at (X := X) (H := G) (k := k) rt hv with ⟨g1, g2⟩ | ⟨e', v', a', u', g1, g2, g3, g4⟩
          · rw [g2] at hp
            cases hp
          · rw [g2] at hp
            cases hp
            exact ⟨v', H, I.tok _, g4, hq _ m _ G H (Same.refl G) hs g3 (kq1 _ g1)⟩
        · rcases getT_at (X := X) (H := G) (k := k) rt hv with ⟨g1, g2⟩ | ⟨e', v', a', u', g1, g2, g3, g4⟩
          · rw [storedH_new hno, zipT_snoc (x := (k, a, v0)) hv] at hD'
            obtain ⟨o', es', ep', ho, hx, hdt, he, _, _⟩ := hD'
            have hv' : Vals ((ys ++ [(k, a, v0)]).map (·.2.2)) (ws ++ [u0]) := by
              rw [List.map_append]
              exact hv.append (.cons rv2 .nil)
            rw [zip_entry] at he
            refine ⟨v0, _, I.write (x := p) (e := p) (o := dNo p ep' (ys ++ [(k, a, v0)])) (by rw [h1]; exact True.intro) (.inl rfl) (fun b ob hb eb => (hsb.2 b hb).trans eb) ⟨o', ho⟩ (dno_ok hv' ⟨o', es', ho, hx, hdt, he⟩), rv2, ?_⟩
            refine hq _ _ _ G _ (Same.refl G) (hs.write mp (.dT z ?_ ?_ (rt.snoc ek hk (.tup e1 r1) hdv))) hdv (kq2 g1)
            · rw [List.length_append, ← rt.length]
              exact hz
            · rw [List.map_append, List.nodup_append]
              refine ⟨nd, by simp, fun a ha b hb => ?_⟩
              have hb : b = k := by simpa using hb
              subst hb
              exact fun z => getT_none rt g1 (z ▸ ha)
          · rw [g2] at hno
            cases hno
def rSetDef (ro : RE) (ra : RA) : RE := fun xd n m q => ro xd n m fun x m1 => (∃ kvs, dctOf x m1 = some (true, kvs)) ∧ ra xd n m1 fun ds m2 => gSetDef x ds m2 q
theorem de_setDef {o e : Expr} {es : List Expr} {ro : RE} {ra : RA} {apos cpos : Pos} (hu : X.A.units + 64 < cLine) (ho : DE X W o ro) (ha : DA X W (e :: es) ra)
    (hbase : attributeBase o "setdefault" X.env (eval o X.env) = eval o X.env := by rfl)
    (hfew : ((backTo cpos (starEach (e :: es) X.env)).all (fun x => !x.1) && (backToKw cpos (keywordEach [] X.env)).all (fun x => x.1.isSome)
      && decide ((e :: es).length + ([] : List Keyword).length + (if ([] : List Keyword).isEmpty then 0 else 1) < 30)) = true := by rfl)
    (hline : (apos.endLine == cpos.line) = true := by rfl) (hs : starEach (e :: es) X.env = (false, eval e X.env) :: starEach es X.env := by rfl) (hplain : (backTo cpos (starEach es X.env)).any (·.1) = false := by rfl) :
    DE X W (.Call (.Attribute o "setdefault" apos) (e :: es) [] cpos) (rSetDef ro ra) :=
  PE.imp (pe_bmT PySem.F.slot_dict_setdefault PySem.F.type_dict_setdefault (md_setDef hu) ho ha hbase hfew hline hs hplain) fun t H Q ⟨n, m, G, xd, q, hn, hs, hl, hr, hq⟩ =>
    ⟨n, m, G, xd, _, hn, hs, hl, hr, fun d m1 v G1 H1 e1 s1 r1 ⟨⟨kvs, ed⟩, q1⟩ => ⟨by
      obtain ⟨p, xs, rfl, ⟨ep, hp⟩, _⟩ := dctT_at s1 r1 ed
      exact ⟨p, xs, ep, rfl, hp⟩, n, m1, G1, xd, _, hn.mono e1, s1, hl.mono e1, q1, fun ds m2 vs G2 H2 e2 s2 r2 q2 => ⟨d, ds, m2, G2, q, r1.mono e2, r2, s2, q2, fun d m' v G' H' e3 s3 r3 q3 => hq d m' v G' H' (e1.trans (e2.trans e3)) s3 r3 q3⟩⟩⟩
/-! ### list(d.values()) -/
theorem RepT.vals {K : PySem.W.Frag} {G : Hp} : ∀ {kvs : List (D × D)} {xs : List (NestedKey × Addr × V)}, RepT K G kvs xs → Reps K G (kvs.map (·.2)) (xs.map (·.2.2))
  | _, _, .nil => .nil
  | _, _, .cons _ _ _ r t => .cons r t.vals
theorem vals_vals {w : World} : ∀ (xs : List (NestedKey × Addr × V)) (us ks : List Value), Vals (xs.map (·.2.2)) us → ks.length = xs.length → (∀ (j : Nat) v, ks[j]? = some v → ∃ e : DictEntry, ((xs.zip us).map fun z => (⟨z.1.1.hash w, .ref z.1.2.1, z.2⟩ : DictEntry))[j]? = some e ∧ v = e.val) → Vals (xs.map (·.2.2)) ks
  | [], _, [], _, _, _ => .nil
  | [], _, _ :: _, _, h, _ => by cases h
  | _ :: _, _, [], _, h, _ => by cases h
  | x :: xs, [], k :: ks, r, _, _ => by cases r
  | x :: xs, u :: us, k :: ks, r, h2, h => by
    cases r with
    | cons r1 r2 =>
    refine .cons ?_ (vals_vals (w := w) xs us ks r2 (by simpa using h2) fun j v e => ?_)
    · obtain ⟨e, e1, e2⟩ := h 0 k rfl
      simp at e1
      subst e1
      rw [e2]
      exact r1
    · obtain ⟨e', e1, e2⟩ := h (j + 1) v (by simpa using e)
      exact ⟨e', by simpa using e1, e2⟩
def tListVals (td : TE) : TE := fun σ H Q => td σ H fun x H1 => ∃ (p : Addr) (xs : List (NestedKey × Addr × V)), x = .ref p ∧ (∃ ep, H1 p = some (dNo p ep xs)) ∧ (p == sysModules) = false ∧ xs.length ≤ sizeLine ∧ ∀ l, H1 l = none → Q (.ref l) (upd H1 l (.lst (xs.map (·.2.2))))
theorem pe_listVals {d : Expr} {td : TE} {p apos cpos : Pos} (hc : X.calm = true) (hg : Gl X "list") (hm : X.mg "list" = none) (hd : PE X d td) (hbase : attributeBase d "values" X.env (eval d X.env) = eval d X.env := by rfl) (hline : (apos.endLine == cpos.line) = true := by rfl)
    (na : starEach [.Call (.Attribute d "values" apos) [] [] cpos] X.env = (false, eval (.Call (.Attribute d "values" apos) [] [] cpos) X.env) :: starEach [] X.env := by rfl) : PE X (.Call (.Name "list" p) [.Call (.Attribute d "values" apos) [] [] cpos] [] pos) (tListVals td) := by
  refine ⟨fun pins s σ H Q I h => ?_⟩
  refine Call_ (ld_blt I hg hm bt_list ?_)
  refine PyProof.Rows.callWith_type1 (PyProof.Rows.args_cons ?_ na) na rfl
  refine wpAny_Call_method (T := "dict") (id := "dict.values") hbase rfl hline PySem.F.plainAttrs_dict PySem.F.slot_dict_values PySem.F.type_dict_values (thn (hd.run pins s σ H _ I h) fun u s1 ⟨x, H1, I1, rx, q1⟩ => ?_)
  obtain ⟨p, xs, rfl, ⟨ep, hp⟩, z, hl, q⟩ := q1
  obtain rfl : u = Value.ref p := rx
  obtain ⟨⟨w, o, es, us, hv, ho, hx, hdt, he⟩, _, _⟩ := I1.hok p _ hp
  have hlen : xs.length = us.length := by rw [← hv.length, List.length_map]
  have hes : es.size = xs.length := by
    rw [← Array.length_toList, he, List.length_map, List.length_zip]
    omega
  have hraw : s1.heap.DictRaw p es ep := ⟨o, ho, hx, hdt⟩
  refine ⟨hraw.typeIs, fun a e => by cases e; exact ⟨o, ho, hx.2.1⟩, ?_⟩
  have I2 : Inv X pins σ H1 { s1 with heap := s1.heap.push { cls := .type "dict_values", data := .fields #[.ref p] } } := I1.kept (t' := s1.toks) fun b ob q => Heap.get?_push_of_some _ q
  show wpAny _ _ (callWith cpos (.builtin "dict.values") [.ref p] [] []) _ X.xe s1
  refine method_meetsIn PySem.F.slot_dict_values PySem.F.entry_dict_values rfl (PySem.evalArgs_none ⟨rfl, hraw.typeIs, PySem.F.args_dict_values_1 _, _, PySem.meets_dict_values_raw p z, ⟨_, _, hraw⟩, ?_⟩)
  refine PyProof.Rows.args_nil ?_
  have hraw2 : ({ s1 with heap := s1.heap.push { cls := .type "dict_values", data := .fields #[.ref p] } } : Shared).heap.DictRaw p es ep := ⟨o, Heap.get?_push_of_some _ ho, hx, hdt⟩
  refine PySem.W.kdl_call (KdlSrc.rawValues (prog := X.prog) (w := X.w) (r := s1.heap.objs.size) (d := p) (es := es) (ep := ep)) (I2.ok.hd hc) ⟨⟨_, Heap.get?_push_size _ rfl, rfl, rfl⟩, hraw2⟩ (by omega) fun h' tk acc c hk hS hacc => ?_
  have hn : H1 (s1.heap.push { cls := .type "dict_values", data := .fields #[.ref p] }).objs.size = none := I2.hok.fresh (Nat.le_refl _)
  have hv2 : Vals (xs.map (·.2.2)) acc.toList := by
    refine vals_vals (w := w) xs us acc.toList hv (by rw [Array.length_toList, hacc.1, hes]) fun j v e => ?_
    obtain ⟨hi, e2⟩ := hacc.2 j v (by rw [← Array.getElem?_toList]; exact e)
    refine ⟨es[j], ?_, e2⟩
    rw [← he, Array.getElem?_toList]
    exact Array.getElem?_eq_getElem hi
  refine ⟨.ref (s1.heap.push { cls := .type "dict_values", data := .fields #[.ref p] }).objs.size, _, I2.laid hk (Nat.le_refl _) (o := .lst (xs.map (·.2.2))) ?_, rfl, q _ hn⟩
  refine ⟨?_, acc.toList, c, hv2, ?_⟩
  · rw [List.length_map]
    exact hl
  · simpa using hS
def rListVals (rd : RE) : RE := fun xd n m q => rd xd n m fun x m1 => ∃ kvs, dctOf x m1 = some (true, kvs) ∧ q (.lst (kvs.map (·.2))) m1
theorem de_listVals {d : Expr} {rd : RE} {p apos cpos : Pos} (hc : X.calm = true) (hg : Gl X "list") (hm : X.mg "list" = none) (hd : DE X W d rd) (hbase : attributeBase d "values" X.env (eval d X.env) = eval d X.env := by rfl) (hline : (apos.endLine == cpos.line) = true := by rfl)
    (na : starEach [.Call (.Attribute d "values" apos) [] [] cpos] X.env = (false, eval (.Call (.Attribute d "values" apos) [] [] cpos) X.env) :: starEach [] X.env := by rfl) : DE X W (.Call (.Name "list" p) [.Call (.Attribute d "values" apos) [] [] cpos] [] pos) (rListVals rd) :=
  PE.imp (pe_listVals hc hg hm hd hbase hline na) fun t H Q ⟨n, m, G, xd, q, hn, hs, hl, hr, hq⟩ =>
    ⟨n, m, G, xd, _, hn, hs, hl, hr, fun x m1 v G1 H1 e1 s1 r1 ⟨kvs, ed, k⟩ => by
      obtain ⟨p, xs, rfl, hp, z, l, nd, rt⟩ := dctT_at s1 r1 ed
      refine ⟨p, xs, rfl, hp, z, l, fun l hl => ?_⟩
      obtain ⟨s2, e2⟩ := s1.laid hl (.lst (xs.map (·.2.2)))
      exact hq _ m1 _ _ _ (e1.trans e2) s2 (.lst upd_same (rt.vals.mono e2)) k⟩
end
end DL

/-! DL48: dicts with int and text keys: asked, written, walked, made of pairs -/
namespace DL
open PySem PySem.Spec PyProof.Rows L2
/-! ### k in d -/
def gInKD (f : Bool → Bool) : G2 := fun x y m q => ∃ kvs k, dctOf y m = some (false, kvs) ∧ keyOf x = some k ∧ q (.bl (f (getK kvs k).isSome)) m
theorem getK_val {K : PySem.W.Frag} {G : Hp} {k : Key} : ∀ {kvs : List (D × D)} {us : List (Key × V)}, RepK K G kvs us → (valV us k).isSome = (getK kvs k).isSome
  | _, _, .nil => rfl
  | _, _, .cons (d := d) (k := k') ek r t => by
    by_cases hk : k' = k
    · subst hk
      unfold getK
      rw [List.find?_cons_of_pos (by simpa using ek), valV_pos rfl]
      rfl
    · have := getK_val (k := k) t
      unfold getK at this ⊢
      rw [List.find?_cons_of_neg (by simpa [ek] using hk), valV_neg hk]
      exact this
section
variable {X : Cx} {W : WX} {pos : Pos} {e : Expr} {re : RE}
theorem od_inKD (hu : X.A.units + 64 < cLine) : OpR X (compareOp .In) (low2 X.K (gInKD fun b => b)) := opN fun pins s σ H G m dx dy x y v u q Q I rx ry hx hy hs hg hq => by
  obtain ⟨kvs, k, e, ek, h⟩ := hg
  obtain ⟨p, us, rfl, hp, rk⟩ := dctK_at hs hy e
  cases ry
  have ey := key_kV hx ek
  subst ey
  refine d_in (by omega) I (.inl ⟨us, k, hp, rfl, rfl⟩) rx fun s' I' => ⟨.bl _, H, I', rfl, ?_⟩
  rw [getK_val rk]
  exact hq.here hs (.bl _) h
theorem od_notInKD (hu : X.A.units + 64 < cLine) : OpR X (compareOp .NotIn) (low2 X.K (gInKD fun b => !b)) := opN fun pins s σ H G m dx dy x y v u q Q I rx ry hx hy hs hg hq => by
  obtain ⟨kvs, k, e, ek, h⟩ := hg
  obtain ⟨p, us, rfl, hp, rk⟩ := dctK_at hs hy e
  cases ry
  have ey := key_kV hx ek
  subst ey
  refine d_notIn (by omega) I (.inl ⟨us, k, hp, rfl, rfl⟩) rx fun s' I' => ⟨.bl _, H, I', rfl, ?_⟩
  rw [getK_val rk]
  exact hq.here hs (.bl _) h
/-! ### {} -/
def rDct0K : RE := fun _ _ m q => ∀ p, m p = none → q (.ref p) (mset m p (.dct false []))
theorem de_dct0K : DE X W (.Dict [] [] pos) rDct0K := PE.imp pe_dnewK fun t H Q ⟨n, m, G, xd, q, hn, hs, hl, hr, hq⟩ => fun p hp =>
  hq _ _ _ G _ (Same.refl G) (hs.alloc hp (.dK .nil)) (.ref p) (hr p (hs.freeM hp))
/-! ### d[k] = v -/
def storK (kvs : List (D × D)) (i : D) (k : Key) (v : D) : List (D × D) := if (getK kvs k).isSome then kvs.map fun p => if keyOf p.1 = some k then (p.1, v) else p else kvs ++ [(i, v)]
theorem storK_len {kvs : List (D × D)} {i v : D} {k : Key} : (storK kvs i k v).length ≤ kvs.length + 1 := by
  unfold storK
  split
  · rw [List.length_map]
    omega
  · rw [List.length_append]
    exact Nat.le_refl _
theorem repK_put {K : PySem.W.Frag} {G : Hp} {k : Key} {e : D} {v : V} (r : Rep K G e v) : ∀ {kvs : List (D × D)} {us : List (Key × V)}, RepK K G kvs us → RepK K G (kvs.map fun p => if keyOf p.1 = some k then (p.1, e) else p) (us.map fun kv => if kv.1 = k then (kv.1, v) else kv)
  | _, _, .nil => .nil
  | _, _, .cons (d := d) (k := k') ek rv t => by
    rw [List.map_cons, List.map_cons]
    by_cases h : k' = k
    · subst h
      rw [if_pos ek, if_pos rfl]
      exact .cons ek r (repK_put r t)
    · rw [if_neg (by rw [ek]; exact fun z => h (Option.some.inj z)), if_neg h]
      exact .cons ek rv (repK_put r t)
theorem repK_stor {K : PySem.W.Frag} {G : Hp} {k : Key} {d e : D} {v : V} (ek : keyOf d = some k) (r : Rep K G e v) {kvs : List (D × D)} {us : List (Key × V)} (h : RepK K G kvs us) : RepK K G (storK kvs d k e) (putK us k v) := by
  unfold storK putK
  rw [valV_any, getK_val h]
  split
  · exact repK_put r h
  · exact RepK.snoc ek r h
def rPutK2 (K : PySem.W.Frag) : TSet := fun o i v H Q => ∃ p us k, o = .ref p ∧ i = kV k ∧ H p = some (.dK us) ∧ us.length < sizeLine ∧ Q (upd H p (.dK (putK us k v)))
theorem set_K2 (hu : X.A.units + 64 < cLine) : PSet X (rPutK2 X.K) := by
  intro pins s σ H o i v ov iv u Q I ro ri rv h
  obtain ⟨p, us, k, rfl, rfl, hp, hz, q⟩ := h
  cases ro
  exact d_setItem (by omega) I (.k hp hz) ri rv fun s' I' => ⟨_, I', q⟩
def rSetK (ro ri rv : RE) : RS := fun xd e n m => rv xd n m fun v m1 => ro xd n m1 fun o m2 => ri xd n m2 fun i m3 => ∃ p kvs k, o = .ref p ∧ m3 p = some (.dct false kvs) ∧ keyOf i = some k ∧ kvs.length < sizeLine ∧ e.nx n (mset m3 p (.dct false (storK kvs i k v)))
theorem ds_setK (hu : X.A.units + 64 < cLine) {o i : Expr} {ro ri : RE} {pos' : Pos} (ho : DE X W o ro) (hi : DE X W i ri) (he : DE X W e re) (ha : ∀ v, assign (.Subscript o i pos') X.env v = (do
      let ov ← holding [v] (eval o X.env)
      let iv ← holding [v, ov] (eval i X.env)
      standAt pos'
      holding [v, ov, iv] (setItem ov iv v)
      release [v, ov, iv] []) := by intro _; rfl) (hs : swapsWithSole [.Subscript o i pos'] e pos.line X.env = pure false := by rfl) (hw : swappedStores [.Subscript o i pos'] e X.env = pure none := by rfl)
    (h1 : (assignEach [.Subscript o i pos'] X.env).map (·.2) = [assign (.Subscript o i pos') X.env] := by rfl) : DS X W (.Assign [.Subscript o i pos'] e pos) (rSetK ro ri re) :=
  PS.imp (ps_asg he (pg_sub ho hi (set_K2 hu) ha) hs hw h1) fun D t H ⟨n, m, G, xd, e, hn, hs, hl, hr, L⟩ =>
    ⟨n, m, G, xd, _, hn, hs, hl, hr, fun d m1 v G1 H1 e1 s1 r1 k => ⟨n, m1, G1, xd, _, hn.mono e1, s1, hl.mono e1, k, fun d2 m2 v2 G2 H2 e2 s2 r2 k2 =>
      ⟨n, m2, G2, xd, _, hn.mono (e1.trans e2), s2, hl.mono (e1.trans e2), k2, fun d3 m3 v3 G3 H3 e3 s3 r3 ⟨p, kvs, ky, eo, mp, ek, hz, k3⟩ => by
        subst eo
        cases r2
        obtain ⟨u, h1, r4⟩ := s3.own p _ mp
        cases r4 with
        | dK rk =>
          refine ⟨p, _, ky, rfl, key_kV r3 ek, h1, by rw [← repK_len rk]; exact hz, ?_⟩
          exact L.nx n _ t G3 _ (e1.trans (e2.trans e3)) (s3.write mp (.dK (repK_stor ek (r1.mono (e2.trans e3)) rk))) (hn.mono (e1.trans (e2.trans e3))) k3⟩⟩⟩
/-! ### for k in d -/
theorem RepK.keysK {K : PySem.W.Frag} {G : Hp} : ∀ {kvs : List (D × D)} {us : List (Key × V)}, RepK K G kvs us → ∀ (i : Nat) (k : Key) (v : V), us[i]? = some (k, v) → ∃ d e, kvs[i]? = some (d, e) ∧ keyOf d = some k ∧ Rep K G e v
  | _, _, .nil, i, k, v, h => by simp at h
  | _, _, .cons (d := d) (e := e) ek r t, 0, k, v, h => by
    simp at h
    obtain ⟨rfl, rfl⟩ := h
    exact ⟨d, e, rfl, ek, r⟩
  | _, _, .cons ek r t, i + 1, k, v, h => by
    obtain ⟨d, e, h1, h2⟩ := RepK.keysK t i k v (by simpa using h)
    exact ⟨d, e, by simpa using h1, h2⟩
theorem rep_key {K : PySem.W.Frag} {G : Hp} {d : D} {k : Key} (h : keyOf d = some k) : Rep K G d (kV k) := by
  cases d with
  | int i =>
    cases h
    exact .int i
  | str cs =>
    cases h
    exact .str cs
  | _ => cases h
theorem src_k {K : PySem.W.Frag} {G : Hp} {p : Addr} {od : Obj} {kvs : List (D × D)} {us : List (Key × V)} (h : G p = some (.frz od (.dK us))) (r : RepK K G kvs us) : Src K G (Itk p od us) (kvs.map (·.1)) where
  go := fun i H m G' e s hi => ⟨s.sub _ _ (e _ _ h), by rw [← repK_len r]; simpa using hi⟩
  yld := fun i x H H' m G' e s hi y => by
    obtain ⟨rfl, k, v, e1, rfl⟩ := y
    obtain ⟨d, e2, h1, h2, _⟩ := r.keysK i k v e1
    exact ⟨G', d, by rw [List.getElem?_map, h1]; rfl, Same.refl _, s, rep_key h2⟩
  stop := fun H m G' e s => ⟨s.sub _ _ (e _ _ h), by rw [List.length_map, repK_len r]; exact Nat.le_refl _⟩
def rInK (r : RE) : RI := fun xd n m q => r xd n m fun d m1 => match d with
  | .dct false kvs => q (kvs.map (·.1)) m1
  | _ => False
theorem di_k {tg : Expr} (h : DE X W e re) : DI X W tg e (rInK re) := PI.imp (pi_keys h) fun t H R ⟨n, m, G, xd, q, hn, hs, hl, hr, hq⟩ =>
  ⟨n, m, G, xd, _, hn, hs, hl, hr, fun d m1 v G1 H1 e1 s1 r1 k => by
    cases r1 with
    | @dK p od kvs us e r => exact ⟨p, od, rfl, .inl ⟨us, s1.sub _ _ e, hq _ m1 G1 H1 _ e1 s1 (src_k e r) k⟩⟩
    | _ => exact False.elim k⟩
/-! ### d.get(k, v) -/
def gGetK : D → List D → Mem → QD → Prop := fun x ds m q => ∃ kvs i k dv, dctOf x m = some (false, kvs) ∧ ds = [i, dv] ∧ keyOf i = some k ∧ q ((getK kvs k).getD dv) m
theorem getK_dflt {K : PySem.W.Frag} {G : Hp} {k : Key} {d : D} {v : V} (hd : Rep K G d v) {kvs : List (D × D)} {us : List (Key × V)} (r : RepK K G kvs us) : Rep K G ((getK kvs k).getD d) ((valV us k).getD v) := by
  cases e : getK kvs k with
  | none =>
    rw [getK_none r e]
    exact hd
  | some z =>
    obtain ⟨v', h1, h2⟩ := getK_at r e
    rw [h1]
    exact h2
theorem md_getK (hu : X.A.units + 64 < cLine) : MtR X "dict.get" (lowM X.K gGetK) := by
  intro pins s σ H x xs v us Q I rx rv ⟨d, ds, m, G, q, hd, hr, hs, ⟨kvs, i, k, dv, e, eds, ek, kq⟩, hq⟩
  subst eds
  obtain ⟨p, ys, rfl, hp, rk⟩ := dctK_at hs hd e
  cases rx
  cases hr with
  | cons h r =>
    cases r with
    | cons hdv r =>
    cases r
    have ey := key_kV h ek
    subst ey
    cases rv with
    | cons rv1 rv2 =>
      cases rv2 with
      | cons rv2 rv3 =>
      cases rv3
      exact d_get2 (by omega) I (.inl ⟨ys, k, hp, rfl, rfl⟩) rv1 rv2 fun w' s' I' rw' => ⟨_, H, I', rw', hq _ m _ G H (Same.refl G) hs (getK_dflt hdv rk) kq⟩
def rGetK (ro : RE) (ra : RA) : RE := fun xd n m q => ro xd n m fun x m1 => (∃ kvs, dctOf x m1 = some (false, kvs)) ∧ ra xd n m1 fun ds m2 => gGetK x ds m2 q
def tBMK (r : V → List V → Hp → VK → Prop) (to : TE) (t : TA) : TE := fun σ H Q => to σ H fun x H1 => (∃ p us, x = .ref p ∧ Rd H1 p (.dK us)) ∧ t σ H1 fun xs H2 => r x xs H2 Q
theorem pe_bmK {o e : Expr} {es : List Expr} {to : TE} {t : TA} {name : Str} {apos cpos : Pos} {id : String} {r : V → List V → Hp → VK → Prop} (slot : Slot "dict" name id) (hty : typeOf (.builtin id) = pure (.type "method_descriptor")) (hm : MtR X id r) (ho : PE X o to) (ha : PA X (e :: es) t)
    (hbase : attributeBase o name X.env (eval o X.env) = eval o X.env := by rfl)
    (hfew : ((backTo cpos (starEach (e :: es) X.env)).all (fun x => !x.1) && (backToKw cpos (keywordEach [] X.env)).all (fun x => x.1.isSome)
      && decide ((e :: es).length + ([] : List Keyword).length + (if ([] : List Keyword).isEmpty then 0 else 1) < 30)) = true := by rfl)
    (hline : (apos.endLine == cpos.line) = true := by rfl) (hs : starEach (e :: es) X.env = (false, eval e X.env) :: starEach es X.env := by rfl) (hplain : (backTo cpos (starEach es X.env)).any (·.1) = false := by rfl) :
    PE X (.Call (.Attribute o name apos) (e :: es) [] cpos) (tBMK r to t) := by
  refine ⟨fun pins s σ H Q I h => ?_⟩
  refine wpAny_Call_method_late hbase hfew hline rfl (thn (ho.run pins s σ H _ I h) fun v s1 ⟨x, H1, I1, r1, ⟨p, us, ex, hp⟩, q1⟩ => ?_)
  subst ex
  cases r1
  obtain ⟨d1, d2, _⟩ := isD_at I1 (.inl ⟨us, hp⟩)
  refine ⟨"dict", id, PySem.F.plainAttrs_dict, slot, hty, d1, d2, ?_⟩
  have hA := ha.run cpos pins s1 σ H1 _ I1 q1
  rw [hs] at hA ⊢
  refine Calls.callWith_builtin (by show (false || (backTo cpos (starEach es X.env)).any (·.1)) = false; rw [hplain] <;> rfl) (Calls.evalArgs_plain ?_)
  exact thn hA fun us s2 ⟨vs, H2, I2, r2, q2⟩ => hm pins s2 σ H2 (.ref p) vs (.ref p) us Q I2 rfl r2 q2
theorem de_getK {o e : Expr} {es : List Expr} {ro : RE} {ra : RA} {apos cpos : Pos} (hu : X.A.units + 64 < cLine) (ho : DE X W o ro) (ha : DA X W (e :: es) ra)
    (hbase : attributeBase o "get" X.env (eval o X.env) = eval o X.env := by rfl)
    (hfew : ((backTo cpos (starEach (e :: es) X.env)).all (fun x => !x.1) && (backToKw cpos (keywordEach [] X.env)).all (fun x => x.1.isSome)
      && decide ((e :: es).length + ([] : List Keyword).length + (if ([] : List Keyword).isEmpty then 0 else 1) < 30)) = true := by rfl)
    (hline : (apos.endLine == cpos.line) = true := by rfl) (hs : starEach (e :: es) X.env = (false, eval e X.env) :: starEach es X.env := by rfl) (hplain : (backTo cpos (starEach es X.env)).any (·.1) = false := by rfl) :
    DE X W (.Call (.Attribute o "get" apos) (e :: es) [] cpos) (rGetK ro ra) :=
  PE.imp (pe_bmK PySem.F.slot_dict_get PySem.F.type_dict_get (md_getK hu) ho ha hbase hfew hline hs hplain) fun t H Q ⟨n, m, G, xd, q, hn, hs, hl, hr, hq⟩ =>
    ⟨n, m, G, xd, _, hn, hs, hl, hr, fun d m1 v G1 H1 e1 s1 r1 ⟨⟨kvs, ed⟩, q1⟩ => ⟨by
      obtain ⟨p, us, rfl, hp, _⟩ := dctK_at s1 r1 ed
      exact ⟨p, us, rfl, hp⟩, n, m1, G1, xd, _, hn.mono e1, s1, hl.mono e1, q1, fun ds m2 vs G2 H2 e2 s2 r2 q2 => ⟨d, ds, m2, G2, q, r1.mono e2, r2, s2, q2, fun d m' v G' H' e3 s3 r3 q3 => hq d m' v G' H' (e1.trans (e2.trans e3)) s3 r3 q3⟩⟩⟩
/-! ### dict(l), l a list of pairs with keys of which no two are the same -/
inductive PrsD : List D → List (D × D) → Prop
  | nil : PrsD [] []
  | cons {d e : D} {ds : List D} {kvs : List (D × D)} : PrsD ds kvs → PrsD (.tup [d, e] :: ds) ((d, e) :: kvs)
theorem merge_nodup {vs : List (Key × V)} : ∀ {us : List (Key × V)}, ((vs ++ us).map (·.1)).Nodup → mergeK vs us = vs ++ us := by
  intro us
  induction us generalizing vs with
  | nil => intro _; simp [mergeK]
  | cons u us ih =>
    intro nd
    have hn : valV vs u.1 = none := by
      cases e : valV vs u.1 with
      | none => rfl
      | some z =>
        exfalso
        have h1 : (valV vs u.1).isSome = true := by rw [e]; rfl
        rw [← valV_any, List.any_eq_true] at h1
        obtain ⟨w, hw, ew⟩ := h1
        rw [List.map_append, List.nodup_append] at nd
        exact nd.2.2 w.1 (List.mem_map_of_mem hw) u.1 (by simp) (of_decide_eq_true ew)
    have e1 : mergeK vs (u :: us) = mergeK (putK vs u.1 u.2) us := rfl
    rw [e1, putK_new _ hn, ih (by simpa using nd)]
    simp
theorem prs_at {K : PySem.W.Frag} {G : Hp} : ∀ {ds : List D} {kvs : List (D × D)} {vs : List V}, PrsD ds kvs → (∀ p ∈ kvs, (keyOf p.1).isSome = true) → Reps K G ds vs → ∃ (ps : List Addr) (us : List (Key × V)), vs = ps.map V.ref ∧ RepK K G kvs us ∧ Paired (fun p kv => G p = some (.tup [kV kv.1, kv.2])) ps us
  | _, _, _, .nil, _, r => by
    cases r
    exact ⟨[], [], rfl, .nil, .nil⟩
  | _, _, _, .cons (d := d) (e := e) h, hk, r => by
    cases r with
    | cons a b =>
      obtain ⟨ps, us, e1, e2, e3⟩ := prs_at h (fun p hp => hk p (List.mem_cons_of_mem _ hp)) b
      cases a with
      | @tup p _ vs ha ra =>
        cases ra with
        | cons r1 ra =>
        cases ra with
        | cons r2 ra =>
        cases ra
        have hd := hk _ List.mem_cons_self
        cases ek : keyOf d with
        | none => rw [ek] at hd; cases hd
        | some k =>
        have ey := key_kV r1 ek
        subst ey
        exact ⟨p :: ps, _ :: us, by rw [e1]; rfl, .cons ek r2 e2, .cons ha e3⟩
def gDictP : List D → Mem → QD → Prop
  | [x], m, q => ∃ ds kvs, lstOf x m = some ds ∧ PrsD ds kvs ∧ (∀ p ∈ kvs, (keyOf p.1).isSome = true) ∧ (kvs.map fun p => keyOf p.1).Nodup ∧ ∀ p, m p = none → q (.ref p) (mset m p (.dct false kvs))
  | _, _, _ => False
theorem paired_mono {α β : Type} {F F' : α → β → Prop} (h : ∀ a b, F a b → F' a b) {l : List α} {r : List β} (p : Paired F l r) : Paired F' l r := by
  induction p with
  | nil => exact .nil
  | cons a _ ih => exact .cons (h _ _ a) ih
theorem cd_dictP (hc : X.calm = true) : CallR X (.type "dict") (lowC X.K gDictP) := crN (call_dictP hc) fun H G m ds vs q Q hr hs hg hq => by
  unfold gDictP at hg
  split at hg
  · obtain ⟨es, kvs, e, hp, hk, nd, k⟩ := hg
    cases hr with
    | cons h r =>
      cases r
      obtain ⟨a, ws, rfl, ha, ra⟩ := lst_at hs h e
      obtain ⟨ps, us, e1, rk, pr⟩ := prs_at hp hk ra
      subst e1
      have nd2 : (us.map (·.1)).Nodup := by
        rw [repK_keys rk] at nd
        exact nodup_some nd
      refine ⟨a, ps, us, rfl, SqL.of ha, paired_mono (fun p kv z => SqT.of (hs.sub _ _ z)) pr, fun p hpn => ?_⟩
      rw [merge_nodup (vs := []) (by simpa using nd2), List.nil_append]
      exact hq _ _ _ G _ (Same.refl G) (hs.alloc hpn (.dK rk)) (.ref p) (k p (hs.freeM hpn))
  · exact False.elim hg
end
end DL

/-! DL49: slices turned about, range downwards, sum -/
namespace DL
open PySem PySem.Spec PyProof.Rows L2
/-! ### xs[a:b:-1] -/
def backN (lo hi : Option Int) (n : Nat) : List Nat := sliceRange (sliceBounds lo hi (some (-1)) n).1 (sliceBounds lo hi (some (-1)) n).2.1 (sliceBounds lo hi (some (-1)) n).2.2
def cutN {α : Type} (xs : List α) (lo hi : Option Int) : List α := (backN lo hi xs.length).filterMap (xs[·]?)
theorem vals_pick {vs : List V} {us : List Value} (r : Vals vs us) : ∀ js : List Nat, Vals (js.filterMap (vs[·]?)) (js.filterMap (us[·]?))
  | [] => .nil
  | j :: js => by
    rw [List.filterMap_cons, List.filterMap_cons]
    cases e : vs[j]? with
    | none =>
      have e2 : us[j]? = none := by
        rw [List.getElem?_eq_none_iff] at e ⊢
        rw [← r.length]
        exact e
      rw [e2]
      exact vals_pick r js
    | some v =>
      obtain ⟨u, hu, rv⟩ := r.get e
      rw [hu]
      exact .cons rv (vals_pick r js)
theorem reps_pick {K : PySem.W.Frag} {G : Hp} {ds : List D} {vs : List V} (r : Reps K G ds vs) : ∀ js : List Nat, Reps K G (js.filterMap (ds[·]?)) (js.filterMap (vs[·]?))
  | [] => .nil
  | j :: js => by
    rw [List.filterMap_cons, List.filterMap_cons]
    cases e : ds[j]? with
    | none =>
      have e2 : vs[j]? = none := by
        rw [List.getElem?_eq_none_iff] at e ⊢
        rw [← r.length]
        exact e
      rw [e2]
      exact reps_pick r js
    | some d =>
      obtain ⟨v, hv, rv⟩ := r.get e
      rw [hv]
      exact .cons rv (reps_pick r js)
theorem sliceRange_len (a b : Int) (n : Nat) (h : a ≤ (n : Int) - 1) (h2 : -1 ≤ b) : (sliceRange a b (-1)).length ≤ n := by
  unfold sliceRange
  rw [List.length_map, List.length_range]
  rw [if_neg (by decide)]
  split
  · rw [show (a - b - -1 - 1) / (- -1 : Int) = a - b by rw [show (- -1 : Int) = 1 by decide, Int.ediv_one]; omega]
    omega
  · simp
theorem backN_len (lo hi : Option Int) (n : Nat) : (backN lo hi n).length ≤ n := by
  unfold backN
  refine sliceRange_len _ _ n ?_ ?_
  · cases lo with
    | none => exact Int.le_refl _
    | some i =>
      unfold sliceBounds
      simp only [Option.getD_some]
      rw [if_neg (show ¬ ((-1 : Int) > 0) by decide)]
      omega
  · cases hi with
    | none => exact Int.le_refl _
    | some i =>
      unfold sliceBounds
      simp only [Option.getD_some]
      rw [if_neg (show ¬ ((-1 : Int) > 0) by decide)]
      omega
/-- a part of a slice that is a number written out, or left out -/
def CP (X : Cx) (e : Option Expr) (lo : Option Int) : Prop := ∃ t, PO X e t ∧ ∀ σ H (R : Option Int → Hp → Prop), R lo H → t σ H R
section
variable {X : Cx} {W : WX} {pos : Pos} {e : Expr} {re : RE}
theorem cp_none : CP X none none := ⟨_, po_none, fun _ _ _ h => h⟩
theorem cp_int {i : Int} {k : Nat} {p : Pos} : CP X (some (.Constant (.int i) k p)) (some i) := ⟨_, po_some pe_int, fun _ _ _ h => ⟨i, rfl, h⟩⟩
theorem cp_neg {i : Int} {k : Nat} {p p2 : Pos} : CP X (some (.UnaryOp .USub (.Constant (.int i) k p) p2)) (some (-i)) := ⟨_, po_some (pe_un un_neg pe_int), fun _ _ _ h => ⟨i, rfl, -i, rfl, h⟩⟩
def tBackL (K : PySem.W.Frag) (lo hi : Option Int) (te : TE) : TE := fun σ H Q => te σ H fun x H1 => ∃ a xs, x = .ref a ∧ SqL K H1 a xs ∧ ∀ p, H1 p = none → Q (.ref p) (upd H1 p (.lst (cutN xs lo hi)))
theorem pe_backL {el eh : Option Expr} {lo hi : Option Int} {te : TE} {k : Nat} {p1 p2 p3 : Pos} (hlo : CP X el lo) (hhi : CP X eh hi) (he : PE X e te)
    (tl : ∀ a s : Addr, subscripted (.Slice el eh (some (.UnaryOp .USub (.Constant (.int 1) k p1) p2)) p3) false (.ref a) (.ref s) = operate [.ref a, .ref s] (getItem (.ref a) (.ref s)) := by intro _ _; with_unfolding_all rfl) : PE X (.Subscript e (.Slice el eh (some (.UnaryOp .USub (.Constant (.int 1) k p1) p2)) p3) pos) (tBackL X.K lo hi te) := by
  obtain ⟨tlo, plo, qlo⟩ := hlo
  obtain ⟨thi, phi, qhi⟩ := hhi
  refine ⟨fun pins s σ H Q I h => ?_⟩
  refine Subscript_ (thn (he.run pins s σ H _ I h) fun v s1 ⟨x, H1, I1, r1, q1⟩ => ?_)
  obtain ⟨a, xs, ex, hx, q⟩ := q1
  subst ex
  cases r1
  have hst : PO X (some (.UnaryOp .USub (.Constant (.int 1) k p1) p2)) (tPart (tUn (rU fun i => .int (-i)) (tC (.int 1)))) := po_some (pe_un un_neg pe_int)
  refine wpAny_Slice (thn (plo.run pins s1 σ H1 (fun o H2 => o = lo ∧ H2 = H1) I1 (qlo _ _ _ ⟨rfl, rfl⟩)) fun vl s2 ⟨l, H2, I2, pl, el, e2⟩ => ?_)
  subst el e2
  refine thn (phi.run pins s2 σ H2 (fun o H3 => o = hi ∧ H3 = H2) I2 (qhi _ _ _ ⟨rfl, rfl⟩)) fun vu s3 ⟨u, H3, I3, pu, eu, e3⟩ => ?_
  subst eu e3
  refine thn (hst.run pins s3 σ H3 (fun o H4 => o = some (-1) ∧ H4 = H3) I3 ⟨1, rfl, -1, rfl, rfl, rfl⟩) fun vs s4 ⟨o, H4, I4, ps, eo, e4⟩ => ?_
  subst eo e4
  have I5 : Inv X pins σ H4 { s4 with heap := s4.heap.push { cls := .type "slice", data := .fields #[vl, vu, vs] } } := I4.kept (t' := s4.toks) fun b ob q => Heap.get?_push_of_some _ q
  obtain ⟨its, r, ht, hz⟩ := I5.list hx
  have hlen := r.length
  refine tail_any (ops := [.ref a, .ref s4.heap.objs.size]) ht.isList.typeIs (PySem.slot_list_getitem.lookup) ?_ (tl _ _)
  refine wpAny_getItem_list_slice ht.isList (Heap.IsSliceOf.new _ vl vu vs) pl pu ps (by decide) ?_ (by rw [List.size_toArray]; omega)
  have epk : slicePick its.toArray l u (some (-1)) = (cutN its l u).toArray := by
    unfold slicePick cutN backN
    rw [List.size_toArray]
    congr 1
    congr 1
    funext j
    exact List.getElem?_toArray
  rw [epk]
  refine ⟨.ref _, _, I5.laid (t' := s4.toks) (o := .lst (cutN xs l u)) (fun b ob q => Heap.get?_push_of_some _ q) (Nat.le_refl _) ?_, rfl, q _ (I5.hok.fresh (Nat.le_refl _))⟩
  refine ⟨?_, _, 0, ?_, Heap.get?_push_size _ rfl⟩
  · exact Nat.le_trans (Nat.le_trans (List.length_filterMap_le _ _) (backN_len _ _ _)) hz
  · unfold cutN
    rw [hlen]
    exact vals_pick r _
def rBack (lo hi : Option Int) (r : RE) : RE := fun xd n m q => r xd n m fun d m1 => ∃ ds, lstOf d m1 = some ds ∧ q (.lst (cutN ds lo hi)) m1
theorem de_back {el eh : Option Expr} {lo hi : Option Int} {k : Nat} {p1 p2 p3 : Pos} (hlo : CP X el lo) (hhi : CP X eh hi) (h : DE X W e re)
    (tl : ∀ a s : Addr, subscripted (.Slice el eh (some (.UnaryOp .USub (.Constant (.int 1) k p1) p2)) p3) false (.ref a) (.ref s) = operate [.ref a, .ref s] (getItem (.ref a) (.ref s)) := by intro _ _; with_unfolding_all rfl) : DE X W (.Subscript e (.Slice el eh (some (.UnaryOp .USub (.Constant (.int 1) k p1) p2)) p3) pos) (rBack lo hi re) := PE.imp (pe_backL hlo hhi h tl) fun t H Q ⟨n, m, G, xd, q, hn, hs, hl, hr, hq⟩ =>
  ⟨n, m, G, xd, _, hn, hs, hl, hr, fun d m1 v G1 H1 e1 s1 r1 ⟨ds, ed, k⟩ => by
    obtain ⟨p, vs, rfl, hp, ra⟩ := lst_at s1 r1 ed
    refine ⟨p, vs, rfl, SqL.of hp, fun l hl => ?_⟩
    obtain ⟨s2, e2⟩ := s1.laid hl (.lst (cutN vs lo hi))
    refine hq _ m1 _ _ _ (e1.trans e2) s2 (.lst upd_same ?_) k
    have ec : cutN vs lo hi = (backN lo hi ds.length).filterMap (vs[·]?) := by
      unfold cutN
      rw [ra.length]
    have := reps_pick (ra.mono e2) (backN lo hi ds.length)
    rw [← ec] at this
    exact this⟩
/-! ### range(i, j, -1) -/
def rngB (i : Int) (n : Nat) : List D := (List.range n).map fun k => D.int (i - (k : Nat))
theorem src_down {K : PySem.W.Frag} {G : Hp} {i : Int} {n : Nat} : Src K G (Itc i (-1) n) (rngB i n) where
  go := fun k H m G' e s hi => by
    show k < n
    have : k < (rngB i n).length := hi
    unfold rngB at this
    simpa using this
  yld := fun k x H H' m G' e s hi y => by
    obtain ⟨rfl, rfl⟩ := y
    have hk : k < n := by
      unfold rngB at hi
      simpa using hi
    refine ⟨G', .int (i - (k : Nat)), ?_, Same.refl _, s, ?_⟩
    · unfold rngB
      rw [List.getElem?_map, List.getElem?_range hk]
      rfl
    · have : i + (k : Nat) * (-1 : Int) = i - (k : Nat) := by omega
      rw [this]
      exact .int _
  stop := fun H m G' e s => by
    show n ≤ (rngB i n).length
    unfold rngB
    simp
def rRngB (r : RA) : RI := fun xd n m q => r xd n m fun ds m1 => ∃ i j : Int, ds = [.int i, .int j, .int (-1)] ∧ (-(2 ^ 62) ≤ i ∧ i < 2 ^ 62 ∧ -(2 ^ 62) ≤ j ∧ j < 2 ^ 62) ∧ q (rngB i (i - j).toNat) m1
theorem di_rangeB {tg a b c : Expr} {p : Pos} {ra : RA} (hg : Gl X "range") (hm : X.mg "range" = none) (ha : DA X W [a, b, c] ra) (hs : starEach [a, b, c] X.env = (false, eval a X.env) :: starEach [b, c] X.env := by rfl) (hpl : (backTo pos (starEach [b, c] X.env)).any (·.1) = false := by rfl) :
    DI X W tg (.Call (.Name "range" p) [a, b, c] [] pos) (rRngB ra) :=
  PI.imp (pi_range3 hg hm ha hs hpl) fun t H R ⟨n, m, G, xd, q, hn, hs, hl, hr, hq⟩ =>
    ⟨n, m, G, xd, _, hn, hs, hl, hr, fun ds m1 vs G1 H1 e1 s1 r1 ⟨i, j, e, ⟨h1, h2, h3, h4⟩, k⟩ => by
      subst e
      cases r1 with
      | cons h r =>
        cases r with
        | cons h' r =>
          cases r with
          | cons h'' r =>
          cases r
          cases h
          cases h'
          cases h''
          exact ⟨i, j, -1, _, rfl, RgC.neg h1 h2 h3 h4, hq _ m1 G1 H1 _ e1 s1 src_down k⟩⟩
/-! ### sum(l) -/
def gSum : List D → Mem → QD → Prop
  | [x], m, q => ∃ ns : List Int, lstOf x m = some (ns.map D.int) ∧ q (.int ns.sum) m
  | _, _, _ => False
theorem cd_sum (hc : X.calm = true) : CallR X (.builtin "sum") (lowC X.K gSum) := crN (cr_sum hc) fun H G m ds vs q Q hr hs hg hq => by
  unfold gSum at hg
  split at hg
  · obtain ⟨ns, e, k⟩ := hg
    cases hr with
    | cons h r =>
      cases r
      obtain ⟨p, vs, rfl, hp, ra⟩ := lst_at hs h e
      have := ra.ints
      subst this
      exact ⟨p, ns, rfl, SqL.of hp, hq.here hs (.int _) k⟩
  · exact False.elim hg
theorem bt_sum : bootBuiltins "sum" = some (.builtin "sum") := by decide +kernel
end
/-! ### what these cuts are -/
theorem pick_down {α : Type} (xs : List α) : ∀ (k b : Nat), b + k ≤ xs.length → ((List.range k).map fun j => b + (k - 1 - j)).filterMap (xs[·]?) = ((xs.drop b).take k).reverse
  | 0, b, _ => by simp
  | k + 1, b, h => by
    rw [List.range_succ_eq_map, List.map_cons, List.map_map]
    have e : (List.range k).map ((fun j => b + (k + 1 - 1 - j)) ∘ Nat.succ) = (List.range k).map fun j => b + (k - 1 - j) := by
      apply List.map_congr_left
      intro j hj
      have := List.mem_range.mp hj
      show b + (k + 1 - 1 - (j + 1)) = b + (k - 1 - j)
      omega
    rw [e]
    have hx : xs[b + (k + 1 - 1 - 0)]? = some (xs[b + k]'(by omega)) := by
      rw [show b + (k + 1 - 1 - 0) = b + k by omega]
      exact List.getElem?_eq_getElem (by omega)
    rw [List.filterMap_cons_some hx, pick_down xs k b (by omega), List.take_add_one, List.reverse_append]
    rw [List.getElem?_drop, List.getElem?_eq_getElem (show b + k < xs.length by omega)]
    rfl
theorem cutN_to0 {α : Type} (xs : List α) (b : Nat) : cutN xs none (some (b : Int)) = (xs.drop (b + 1)).reverse := by
  unfold cutN backN
  have h1 : sliceBounds none (some (b : Int)) (some (-1)) xs.length = ((xs.length : Int) - 1, max (-1) (min (b : Int) ((xs.length : Int) - 1)), -1) := by
    unfold sliceBounds
    simp only [Option.getD_some]
    rw [if_neg (show ¬ ((-1 : Int) > 0) by decide), if_neg (show ¬ ((b : Int) < 0) by omega), if_neg (show ¬ ((-1 : Int) > 0) by decide)]
  rw [h1]
  unfold sliceRange
  simp only
  rw [if_neg (show ¬ ((-1 : Int) > 0) by decide)]
  by_cases h : (b : Int) < (xs.length : Int) - 1
  · rw [if_pos (by omega)]
    have e : ((((xs.length : Int) - 1) - max (-1) (min (b : Int) ((xs.length : Int) - 1)) - -1 - 1) / (- -1)).toNat = xs.length - (b + 1) := by
      rw [show (- -1 : Int) = 1 by decide, Int.ediv_one]
      omega
    rw [e]
    have := pick_down xs (xs.length - (b + 1)) (b + 1) (by omega)
    rw [List.take_of_length_le (by rw [List.length_drop]; exact Nat.le_refl _)] at this
    rw [← this]
    congr 1
    apply List.map_congr_left
    intro j hj
    have := List.mem_range.mp hj
    omega
  · rw [if_neg (by omega)]
    rw [List.drop_eq_nil_of_le (by omega)]
    rfl
theorem cutN_from2 {α : Type} (xs : List α) : cutN xs (some (-2)) none = xs.dropLast.reverse := by
  unfold cutN backN
  have h1 : sliceBounds (some (-2)) none (some (-1)) xs.length = (max (-1) (min ((-2 : Int) + xs.length) ((xs.length : Int) - 1)), -1, -1) := by
    unfold sliceBounds
    simp only [Option.getD_some]
    rw [if_pos (show (-2 : Int) < 0 by decide), if_neg (show ¬ ((-1 : Int) > 0) by decide), if_neg (show ¬ ((-1 : Int) > 0) by decide)]
  rw [h1]
  unfold sliceRange
  simp only
  rw [if_neg (show ¬ ((-1 : Int) > 0) by decide)]
  rw [List.dropLast_eq_take]
  by_cases h : 2 ≤ xs.length
  · rw [if_pos (by omega)]
    have e : ((max (-1) (min ((-2 : Int) + xs.length) ((xs.length : Int) - 1)) - -1 - -1 - 1) / (- -1)).toNat = xs.length - 1 := by
      rw [show (- -1 : Int) = 1 by decide, Int.ediv_one]
      omega
    rw [e]
    have := pick_down xs (xs.length - 1) 0 (by omega)
    rw [List.drop_zero] at this
    rw [← this]
    congr 1
    apply List.map_congr_left
    intro j hj
    have := List.mem_range.mp hj
    omega
  · rw [if_neg (by omega)]
    rw [show xs.length - 1 = 0 by omega]
    rfl
end DL

/-! DL50: list comprehensions of two clauses -/
namespace DL
open PySem PySem.Spec PyProof.Rows L2
theorem turn_of2 {elt i0 t0 i1 t1 : Expr} {f0 f1 : List Expr} {scope : Scope} {pos : Pos} {it acc : Value} {env : Env} : compTurn (.ListComp elt [⟨t0, i0, f0, 0⟩, ⟨t1, i1, f1, 0⟩] scope pos) 0 it acc env = turnB elt [⟨t0, i0, f0, 0⟩, ⟨t1, i1, f1, 0⟩] scope pos 0 i0.pos t0 f0 it acc env (stageB elt [⟨t0, i0, f0, 0⟩, ⟨t1, i1, f1, 0⟩] scope pos 1 i1 acc env) := by
  unfold compTurn turnB stageB
  simp
  rfl
section
variable {X : Cx} {W : WX} {elt i0 t0 i1 t1 : Expr} {f0 f1 : List Expr} {scope : Scope} {own : List (Str × Nat)} {pos : Pos} {r0 r1 : RI} {T0 T1 : Tgt} {q0 q1 : RT} {te : RE} {v0 v1 : List Nat}
theorem de_lc2 (hc : X.calm = true) (hN : X.N.Nodup) (h0 : DI X W t0 i0 r0) (ok : BlkOk X.N X.env.scope scope own) (hv : own.map (·.2) = v0) (w0 : T0.within v0 = true) (w1 : T1.within v1 = true) (in1 : ∀ j ∈ v1, j ∈ v0)
    (g0 : Blk X scope fun B => PG B t0 (gT X.K T0)) (c0 : Blk X scope fun B => DTs B W0 f0 q0) (h1 : Blk X scope fun B => DI B W0 t1 i1 r1) (g1 : Blk X scope fun B => PG B t1 (gT X.K T1)) (c1 : Blk X scope fun B => DTs B W0 f1 q1)
    (he : Blk X scope fun B => DE B W0 elt te) (hs : ∀ x, foldedSetIterable i0 X.env x = pure x := by intro _; rfl)
    (s1 : ∀ env x, foldedSetIterable i1 env x = pure x := by intro _ _; rfl) :
    DE X W (.ListComp elt [⟨t0, i0, f0, 0⟩, ⟨t1, i1, f1, 0⟩] scope pos) (rLcG r0 T0 q0 (fun P => rbClause r1 T1 q1 (rbEmit P te) v1) v0) := by
  subst hv
  refine PE.imp (pe_lcG (ws := v1) (body := fun D env => stageB elt [⟨t0, i0, f0, 0⟩, ⟨t1, i1, f1, 0⟩] scope pos 1 i1 (.ref D) env) hc hN h0 ok (fun D it env => turn_of2) g0 c0 (fun D s H C cl fp => ?_) in1 hs) (low_first w0)
  refine PB.imp (pb_clause (d := 0) (D := D) (ws := []) (body := emitB elt (.ref D) (compEnvC scope cl C X.env)) hc rfl (fun _ => rfl) rfl (s1 _) (h1 s H C cl fp) (g1 s H C cl fp) (c1 s H C cl fp) ?_ (fun _ h => absurd h List.not_mem_nil)) (low_clause w1)
  exact PB.imp (pb_emit rfl (he s H C cl fp)) low_emit
end
end DL

/-! DL51: a dict against an empty one -/
namespace DL
open PySem PySem.Spec PyProof.Rows L2
section
variable {prog : Program} {w : World} {A : Around} {E : Value → Shared → Prop} {s : Shared}
theorem same_none {nm : String} {a b : Addr} {oa ob : Obj} {es : Array DictEntry} {ep ep' : Nat} {Q : Bool → Shared → Prop} (ha : (a == sysModules) = false) (hb : (b == sysModules) = false) (ga : s.heap.get? a = some oa) (da : oa.data = .dict es ep) (gb : s.heap.get? b = some ob) (db : ob.data = .dict #[] ep') (h : Q (decide (es.size = 0)) s) :
    wpAny (model prog w) A (Builtin.Dict.samePairs nm a b) Q E s := by
  unfold Builtin.Dict.samePairs Builtin.Dict.showsAll
  rw [if_neg (show ¬ (a == sysModules) = true by rw [ha]; exact Bool.false_ne_true), if_neg (show ¬ (b == sysModules) = true by rw [hb]; exact Bool.false_ne_true)]
  refine wpAny_bind (wpAny_pure (wpAny_bind (wpAny_pure ?_)))
  refine wpAny_bind (wpAny_dictEntries ga da ?_)
  dsimp only
  refine wpAny_bind (wpAny_dictEntries gb db ?_)
  by_cases hz : es.size = 0
  · rw [decide_eq_true hz] at h
    rw [if_neg (by rw [hz]; simp)]
    refine wpAny_bind (wpAny_dictEpoch ga da ?_)
    refine wpAny_bind ?_
    rw [Std.Legacy.Range.forIn_eq_forIn_range']
    simp only [Std.Legacy.Range.size, Nat.sub_zero, Nat.add_sub_cancel, Nat.div_one]
    rw [hz]
    refine wpAny_forIn_list _ (fun rest q s' => s' = s ∧ q = (none, ()) ∧ rest = []) _ ?_ ?_ _ _ ⟨rfl, rfl, rfl⟩
    · rintro x rest q s' ⟨_, _, e⟩
      cases e
    · rintro q s' ⟨rfl, rfl, _⟩
      exact wpAny_pure h
  · rw [decide_eq_false hz] at h
    rw [if_pos (by simpa using hz)]
    exact wpAny_bind (wpAny_rule (wpAny_pure h))
theorem eq_none {a b : Addr} {oa ob : Obj} {es : Array DictEntry} {ep ep' : Nat} {Q : Value → Shared → Prop} (ha : (a == sysModules) = false) (hb : (b == sysModules) = false) (ta : s.TypeIs (.ref a) "dict") (tb : s.TypeIs (.ref b) "dict") (ga : s.heap.get? a = some oa) (da : oa.data = .dict es ep) (gb : s.heap.get? b = some ob) (db : ob.data = .dict #[] ep') (hu : A.units < cLine)
    (h : Q (.bool (decide (es.size = 0))) s) : wpAny (model prog w) A (compareOp .Eq (.ref a) (.ref b)) Q E s := by
  refine PySem.wpAny_richCompare_same_room (op := .Eq) ta tb PySem.F.slot_dict_eq (wpAny_call_entry PySem.F.slot_dict_eq ta PySem.F.entry_dict_eq ?_ (PySem.F.args_dict_eq_2 _ _)) hu
  show wpAny _ _ (Builtin.Dict.dictSlotArgs "__eq__" ⟨[.ref a, .ref b], []⟩ >>= _) _ _ s
  refine wpAny_bind ?_
  unfold Builtin.Dict.dictSlotArgs
  refine wpAny_bind (wpAny_notOrdered_dict ta ?_)
  show wpAny _ _ (pure (Value.ref a, Value.ref b)) _ _ s
  refine wpAny_pure ?_
  refine wpAny_bind (wpAny_isInstance (T := "dict") tb PySem.F.sub_dict_dict ?_)
  simp only [Bool.not_true, Bool.false_eq_true, if_false]
  refine wpAny_bind (wpAny_pure (wpAny_bind (wpAny_pure ?_)))
  refine wpAny_bind (same_none ha hb ga da gb db ?_)
  refine wpAny_pure ⟨_, rfl, ?_, ?_⟩
  · exact fun x => nomatch x
  · simpa using h
theorem ne_none {a b : Addr} {oa ob : Obj} {es : Array DictEntry} {ep ep' : Nat} {Q : Value → Shared → Prop} (ha : (a == sysModules) = false) (hb : (b == sysModules) = false) (ta : s.TypeIs (.ref a) "dict") (tb : s.TypeIs (.ref b) "dict") (ga : s.heap.get? a = some oa) (da : oa.data = .dict es ep) (gb : s.heap.get? b = some ob) (db : ob.data = .dict #[] ep') (hu : A.units < cLine)
    (h : Q (.bool (!decide (es.size = 0))) s) : wpAny (model prog w) A (compareOp .NotEq (.ref a) (.ref b)) Q E s := by
  refine PySem.wpAny_richCompare_same_room (op := .NotEq) ta tb PySem.F.slot_dict_ne (wpAny_call_entry PySem.F.slot_dict_ne ta PySem.F.entry_dict_ne ?_ (PySem.F.args_dict_ne_2 _ _)) hu
  show wpAny _ _ (Builtin.Dict.dictSlotArgs "__ne__" ⟨[.ref a, .ref b], []⟩ >>= _) _ _ s
  refine wpAny_bind ?_
  unfold Builtin.Dict.dictSlotArgs
  refine wpAny_bind (wpAny_notOrdered_dict ta ?_)
  show wpAny _ _ (pure (Value.ref a, Value.ref b)) _ _ s
  refine wpAny_pure ?_
  refine wpAny_bind (wpAny_isInstance (T := "dict") tb PySem.F.sub_dict_dict ?_)
  simp only [Bool.not_true, Bool.false_eq_true, if_false]
  refine wpAny_bind (wpAny_pure (wpAny_bind (wpAny_pure ?_)))
  refine wpAny_bind (same_none ha hb ga da gb db ?_)
  refine wpAny_pure ⟨_, rfl, ?_, ?_⟩
  · exact fun x => nomatch x
  · simpa using h
end
section
variable {X : Cx} {W : WX} {pos : Pos}
/-- what stands there: a dict, and how many entries it has -/
theorem dct_now {pins : List (Addr × Obj)} {σ : L2.St} {H G : Hp} {m : Mem} {s : Shared} (I : Inv X pins σ H s) {x : D} {v : V} {t : Bool} {kvs : List (D × D)} (hs : Sep X.K G m H) (r : Rep X.K G x v) (h : dctOf x m = some (t, kvs)) :
    ∃ p o es ep, v = .ref p ∧ (p == sysModules) = false ∧ s.TypeIs (.ref p) "dict" ∧ s.heap.get? p = some o ∧ o.data = .dict es ep ∧ es.size = kvs.length := by
  cases t with
  | true =>
    obtain ⟨p, xs, rfl, ⟨ep, hp⟩, z, _, nd, rt⟩ := dctT_at hs r h
    obtain ⟨us, hv, o, es, ep, ho, hx, hd, he, _, _⟩ := keyed_at I hp (rt.mono hs.sub) nd
    refine ⟨p, o, es, ep, rfl, z, ⟨o, ho, hx.1⟩, ho, hd, ?_⟩
    rw [← Array.length_toList, he, List.length_map]
    unfold zipT
    have : xs.length = us.length := by rw [← hv.length, List.length_map]
    rw [List.length_map, List.length_zip, rt.length]
    omega
  | false =>
    obtain ⟨p, us, rfl, rd, rk⟩ := dctK_at hs r h
    obtain ⟨_, y, va, ra, da⟩ := dk_rd I.hok rd
    have ti := da.typeIs
    obtain ⟨o, es, ep, ho, hx, hd, hk, hpp, hn⟩ := da
    refine ⟨p, o, es, ep, rfl, y, ti, ho, hd, ?_⟩
    rw [← Array.length_toList, hpp.length, ← ra.length, repK_len rk]
/-- d == {}, d != {} -/
def gEmp (f : Bool → Bool) : G2 := fun x y m q => ∃ t kvs, dctOf x m = some (t, kvs) ∧ y = .dct false [] ∧ q (.bl (f (decide (kvs = [])))) m
theorem len_nil {α : Type} (l : List α) : decide (l.length = 0) = decide (l = []) := by
  cases l <;> simp
theorem odEmp (hu : X.A.units + 64 < cLine) : OpR X (compareOp .Eq) (low2 X.K (gEmp fun b => b)) := opN fun pins s σ H G m dx dy x y v u q Q I rx ry hx hy hs hg hq => by
  obtain ⟨t, kvs, e, rfl, k⟩ := hg
  obtain ⟨p, o, es, ep, rfl, z, ti, ho, hd, hl⟩ := dct_now I hs hx e
  obtain ⟨p2, o2, es2, ep2, rfl, z2, ti2, ho2, hd2, hl2⟩ := dct_now I hs hy (t := false) (kvs := []) rfl
  cases rx
  cases ry
  have e2 : es2 = #[] := Array.eq_empty_of_size_eq_zero (by simpa using hl2)
  subst e2
  refine eq_none z z2 ti ti2 ho hd ho2 hd2 (by omega) ?_
  rw [hl, len_nil]
  exact ⟨.bl _, H, I, rfl, hq.here hs (.bl _) k⟩
theorem odEmpN (hu : X.A.units + 64 < cLine) : OpR X (compareOp .NotEq) (low2 X.K (gEmp fun b => !b)) := opN fun pins s σ H G m dx dy x y v u q Q I rx ry hx hy hs hg hq => by
  obtain ⟨t, kvs, e, rfl, k⟩ := hg
  obtain ⟨p, o, es, ep, rfl, z, ti, ho, hd, hl⟩ := dct_now I hs hx e
  obtain ⟨p2, o2, es2, ep2, rfl, z2, ti2, ho2, hd2, hl2⟩ := dct_now I hs hy (t := false) (kvs := []) rfl
  cases rx
  cases ry
  have e2 : es2 = #[] := Array.eq_empty_of_size_eq_zero (by simpa using hl2)
  subst e2
  refine ne_none z z2 ti ti2 ho hd ho2 hd2 (by omega) ?_
  rw [hl, len_nil]
  exact ⟨.bl _, H, I, rfl, hq.here hs (.bl _) k⟩
end
end DL

/-! DL52: isinstance(d, dict) and d.clear() of dicts with tuple keys -/
namespace DL
open PySem PySem.Spec PyProof.Rows L2
section
variable {X : Cx} {W : WX} {pos : Pos}
/-- isinstance(d, dict) -/
def gIsD : List D → Mem → QD → Prop
  | [x, .ty "dict"], m, q => ∃ kvs, dctOf x m = some (true, kvs) ∧ q (.bl true) m
  | _, _, _ => False
theorem cd_isD : CallR X (.builtin "isinstance") (lowC X.K gIsD) := by
  intro pins s σ H xs us Q I rv ⟨ds, m, G, q, hr, hs, hg, hq⟩
  unfold gIsD at hg
  split at hg
  · obtain ⟨kvs, e, k⟩ := hg
    cases hr with
    | cons h r =>
      cases r with
      | cons h' r =>
        cases r
        cases h'
        obtain ⟨p, ys, rfl, ⟨ep, hp⟩, z, _, nd, rt⟩ := dctT_at hs h e
        obtain ⟨u1, u2, rfl, r1, r2⟩ := vals2 rv
        cases r1
        have e2 := (ClsV.ty "dict").eq r2
        subst e2
        obtain ⟨⟨w', o, es, us, hv, ho, hx, hd, he⟩, _, _⟩ := I.hok p _ hp
        exact PySem.W.kia_one PySem.W.kitx_dict I.kIn ⟨o, ho, hx.1⟩ (kit_ty (kitB_ok "dict" (by decide) "dict" (by decide))) (fun z => nomatch z) fun tk => ⟨.bl true, H, I.tok tk, rfl, hq.here hs (.bl _) k⟩
  · exact False.elim hg
/-- d.clear() -/
def gClearT : GM := fun x ds m q => ∃ p kvs, x = .ref p ∧ ds = [] ∧ m p = some (.dct true kvs) ∧ q .non (mset m p (.dct true []))
theorem md_clearT : MtR X "dict.clear" (lowM X.K gClearT) := by
  intro pins s σ H x xs v us Q I rx rv ⟨d, ds, m, G, q, hd, hr, hs, ⟨p, kvs, ed, eds, mp, k⟩, hq⟩
  subst ed eds
  cases hd
  cases hr
  obtain ⟨u, h1, r4⟩ := hs.own p _ mp
  cases r4 with
  | @dT ep _ ys z l nd rt =>
  cases rx
  have hus := rv.zero
  subst hus
  obtain ⟨⟨w', o, es, us, hv, ho, hx, hd, he⟩, _, _⟩ := I.hok p _ h1
  have hl : es.size ≤ sizeLine := by
    rw [← Array.length_toList, he, List.length_map, List.length_zip]
    omega
  refine call_meetsIn PySem.F.slot_dict_clear ⟨o, ho, hx.1⟩ PySem.F.entry_dict_clear (PySem.F.args_dict_clear_1 _) (meets_dict_clear_raw p) ⟨es, ep, ⟨o, ho, hx, hd⟩, hl, fun h' hr' hsb => ?_⟩
  obtain ⟨o', ho', hx', hd'⟩ := hr'
  exact ⟨.non, _, I.write (x := p) (e := p) (o := dNo p (ep + 1) []) (by rw [h1]; exact True.intro) (.inl rfl) (fun b ob hb eb => (hsb.2 b hb).trans eb) ⟨o', ho'⟩ (dno_ok (w' := X.w) (us := []) .nil ⟨o', #[], ho', hx', hd', rfl⟩), rfl, hq .non _ .non G _ (Same.refl G) (hs.write mp (.dT z (Nat.zero_le _) List.nodup_nil .nil)) .non k⟩
def tBM0T (r : V → List V → Hp → VK → Prop) (to : TE) : TE := fun σ H Q => to σ H fun x H1 => (∃ p xs ep, x = .ref p ∧ H1 p = some (dNo p ep xs)) ∧ r x [] H1 Q
theorem pe_bm0T {o : Expr} {to : TE} {name : Str} {apos cpos : Pos} {id : String} {r : V → List V → Hp → VK → Prop} (slot : Slot "dict" name id) (hty : typeOf (.builtin id) = pure (.type "method_descriptor")) (hm : MtR X id r) (ho : PE X o to)
    (hbase : attributeBase o name X.env (eval o X.env) = eval o X.env := by rfl) (hline : (apos.endLine == cpos.line) = true := by rfl) : PE X (.Call (.Attribute o name apos) [] [] cpos) (tBM0T r to) := by
  refine ⟨fun pins s σ H Q I h => ?_⟩
  refine wpAny_Call_method0_late hbase hline (thn (ho.run pins s σ H _ I h) fun v s1 ⟨x, H1, I1, r1, ⟨p, xs, ep, ex, hp⟩, q1⟩ => ?_)
  subst ex
  cases r1
  obtain ⟨⟨w, ob, es', us, hv, hob, hx, hd, he⟩, _, _⟩ := I1.hok p _ hp
  refine ⟨"dict", id, PySem.F.plainAttrs_dict, slot, hty, ⟨ob, hob, hx.1⟩, fun a e => ?_, ?_⟩
  · cases e
    exact ⟨ob, hob, hx.2.1⟩
  · exact Calls.callWith_builtin rfl (PySem.evalArgs_none (hm pins s1 σ H1 (.ref p) [] _ [] Q I1 rfl .nil q1))
def rClearT (ro : RE) : RE := fun xd n m q => ro xd n m fun x m1 => (∃ kvs, dctOf x m1 = some (true, kvs)) ∧ gClearT x [] m1 q
theorem de_clearT {o : Expr} {ro : RE} {apos cpos : Pos} (ho : DE X W o ro) (hbase : attributeBase o "clear" X.env (eval o X.env) = eval o X.env := by rfl) (hline : (apos.endLine == cpos.line) = true := by rfl) : DE X W (.Call (.Attribute o "clear" apos) [] [] cpos) (rClearT ro) :=
  PE.imp (pe_bm0T PySem.F.slot_dict_clear PySem.F.type_dict_clear md_clearT ho hbase hline) fun t H Q ⟨n, m, G, xd, q, hn, hs, hl, hr, hq⟩ =>
    ⟨n, m, G, xd, _, hn, hs, hl, hr, fun d m1 v G1 H1 e1 s1 r1 ⟨⟨kvs, ed⟩, q1⟩ => ⟨by
      obtain ⟨p, xs, rfl, ⟨ep, hp⟩, _⟩ := dctT_at s1 r1 ed
      exact ⟨p, xs, ep, rfl, hp⟩, d, [], m1, G1, q, r1, .nil, s1, q1, fun d m' v G' H' e3 s3 r3 q3 => hq d m' v G' H' (e1.trans e3) s3 r3 q3⟩⟩
end
end DL

/-! DL53: sets of ints made of a list: how many, sorted -/
namespace DL
open PySem PySem.Spec PyProof.Rows L2
section
variable {P : Program} {w : World} {A : Around} {E : Value → Shared → Prop} {s : Shared}
theorem setR_loop {I : Addr} {fp wr : List Addr} {G : Array GenState → Array GenState → Prop} {n : Nat} {Pv : Nat → Value → Prop} {St : Nat → Shared → Prop} {R : Result → Shared → Prop}
    (W : WalksS P w A.in1 I fp wr G n Pv St) (S : Addr) (hSf : S ∉ fp) (ns : List Int) (hn : n = ns.length) (hb : ns.length + 1 < scanBound) (hval : ∀ i v, Pv i v → ∃ k tk, ns[i]? = some k ∧ v = .int k tk) :
    ∀ (k i : Nat) (s : Shared), n - i = k → i ≤ n → St i s → (∃ c, SetR w s.heap S (fun x => decide (x ∈ ns.take i)) c ∧ c ≤ i) →
      (∀ s' c, Moved (S :: wr) G s s' → SetR w s'.heap S (fun x => decide (x ∈ ns)) c → R (.ok (.ret .none)) s') →
      codeAny (model P w) A (.builtin "set.update.loop" ⟨[.ref S, .ref I], []⟩) R s := by
  have hSw : S ∉ wr := fun h => hSf (W.sub _ h)
  have hsub : ∀ b ∈ wr, b ∈ S :: wr := fun b hb => List.mem_cons_of_mem _ hb
  intro k
  induction k with
  | zero =>
    intro i s hk' hi hst ⟨c, hS, hc⟩ hR
    have hin : i = n := by omega
    subst hin
    refine codeAny_builtin PyProof.Rows.F.entry_set_update_loop ?_
    rw [Around.under_plainId PyProof.Rows.F.plain_set_update_loop _]
    show wpAny _ A.in1 (pyNext (.ref I) >>= _) _ _ s
    refine wpAny_bind (W.done s _ _ hst fun s' hm => ?_)
    show wpAny _ A.in1 (ret Value.none) _ _ s'
    rw [hn, List.take_length] at hS
    exact wpAny_pure (hR s' c (hm.mono hsub) (hS.at fun o e => hm.heap S o hSw e))
  | succ k ih =>
    intro i s hk' hi hst ⟨c, hS, hc⟩ hR
    have hlt : i < n := by omega
    refine codeAny_builtin PyProof.Rows.F.entry_set_update_loop ?_
    rw [Around.under_plainId PyProof.Rows.F.plain_set_update_loop _]
    show wpAny _ A.in1 (pyNext (.ref I) >>= _) _ _ s
    refine wpAny_bind (W.item i s _ _ hlt hst fun v s' hP hst' hm => ?_)
    obtain ⟨x, tk, hx, rfl⟩ := hval i v hP
    have hS' : SetR w s'.heap S (fun x => decide (x ∈ ns.take i)) c := hS.at fun o e => hm.heap S o hSw e
    show wpAny _ A.in1 (holding [Value.int x tk] (setAdd S (.int x tk)) >>= _) _ _ s'
    refine wpAny_bind (wpAny_holding ?_)
    unfold setAdd
    refine wpAny_holding ?_
    refine wpAny_bind ((intKind P w).pyHash (intKind_is P w x tk) ?_)
    refine setR_add_hashed (s := { s' with toks := s'.toks + 1 }) hS' (by omega) fun h' hsb hS2 => ?_
    have hS3 : SetR w h' S (fun y => decide (y ∈ ns.take (i + 1))) (if decide (x ∈ ns.take i) = true then c else c + 1) := hS2.congr fun y => by
      rw [List.take_add_one, hx]
      simp only [Option.toList_some, List.mem_append, List.mem_singleton, Bool.decide_or]
    refine wpAny_pure ⟨plainId_quiet PyProof.Rows.F.plain_set_update_loop _, ih (i + 1) _ (by omega) hlt (W.frame _ s' _ _ hst' (Nat.le_succ _) fun b hb o e => ?_) ⟨_, hS3, by split <;> omega⟩ fun s'' c2 hm'' hS'' => ?_⟩
    · rw [hsb.2 b (fun h : b = S => hSf (by rw [← h]; exact hb))]; exact e
    · refine hR s'' c2 (Moved.trans W.gtrans ((hm.mono hsub).then_heap (Nat.le_succ _) fun b o hb e => ?_) hm'') hS''
      rw [hsb.2 b (fun h : b = S => hb (by rw [h]; exact List.mem_cons_self))]; exact e
set_option maxHeartbeats 6400000 in
/-- set(xs), xs a list of ints -/
theorem call_set_ints {l : Addr} {items : Array Value} (ns : List Int) {Q : Value → Shared → Prop} (hh : A.handled = none) (hl : s.heap.IsList l items) (hit : ∀ (i : Nat) v, items[i]? = some v → ∃ k tk, ns[i]? = some k ∧ v = .int k tk)
    (hisz : items.size = ns.length) (hfew : ns.length + 1 < scanBound)
    (h : ∀ (h' : Heap) (tk c : Nat), SetR w h' s.heap.objs.size (fun x => decide (x ∈ ns)) c → (∀ b o, b < s.heap.objs.size → s.heap.get? b = some o → h'.get? b = some o) → Q (.ref s.heap.objs.size) { s with heap := h', toks := tk }) :
    wpAny (model P w) A (call (.type "set") [.ref l]) Q E s := by
  obtain ⟨c, tl, hmro⟩ := PySem.F.called_set.mro
  have hmade := PySem.F.called_set.made
  have hsub := PySem.F.called_set.sub
  refine wpAny_call (codeAny_of_tree ?_)
  show wpAny _ _ (callAny (.type "set") _) _ _ _
  refine wpAny_pure ⟨Code.quiet_builtin _ (by decide +kernel), codeAny_builtin PySem.F.entry_type_call ?_⟩
  rw [Around.under_plain (weight_type_call_type "set" [.ref l] []) rfl]
  have h1 := PySem.F.called_set.notType
  have h2 := PySem.F.called_set.canCreate
  have hct := PySem.F.typeCall_set_1 (.ref l)
  repeat (any_goals (first | assumption | wp_step))
  refine codeAny_mono (code_set_led1 (.ref l) (E := E) (Q₁ := fun obj s₁ => obj = .ref s.heap.objs.size ∧ s₁ = { s with heap := s.heap.push { cls := .type "set", dict := none, data := .set #[] 0 (.fresh 0 0 (!w.params.followText "set-order")) } }) ⟨rfl, rfl⟩) fun r s₁ hr => ?_
  cases r with
  | error e => exact hr
  | ok fl =>
    cases fl with
    | ret obj =>
      obtain ⟨rfl, rfl⟩ := hr
      have hS : (s.heap.push { cls := .type "set", dict := none, data := .set #[] 0 (.fresh 0 0 (!w.params.followText "set-order")) }).get? s.heap.objs.size = some { cls := .type "set", dict := none, data := .set #[] 0 (.fresh 0 0 (!w.params.followText "set-order")) } := Heap.get?_push_size _ rfl
      have hT : Shared.TypeIs { s with heap := s.heap.push { cls := .type "set", dict := none, data := .set #[] 0 (.fresh 0 0 (!w.params.followText "set-order")) } } (.ref s.heap.objs.size) "set" := ⟨_, hS, rfl⟩
      have hli := PySem.F.called_set.init.lookup
      have hbi := PySem.F.called_set.init.bind (.ref s.heap.objs.size)
      repeat (any_goals (first | assumption | wp_step))
      refine codeAny_mono (codeAny_call_builtin (R := wants (fun r s₂ => r = .none ∧ ∃ h' tk c, s₂ = { s with heap := h', toks := tk } ∧ SetR w h' s.heap.objs.size (fun x => decide (x ∈ ns)) c ∧
          (∀ b o, b < s.heap.objs.size → s.heap.get? b = some o → h'.get? b = some o)) E) PySem.F.called_set.init.plain PySem.F.entry_set_init (check_set_init_1 hT ?_)) fun r₂ s₂ hr₂ => ?_
      · obtain ⟨ol, hol, hcl, nl, hdl⟩ := hl
        obtain ⟨ocls, odict, odata, oslots⟩ := ol
        simp only at hcl hdl
        subst hcl; subst hdl
        have hol' : (s.heap.push { cls := .type "set", dict := none, data := .set #[] 0 (.fresh 0 0 (!w.params.followText "set-order")) }).get? l = some { cls := .type "list", dict := odict, data := .seq items nl, slots := oslots } := Heap.get?_push_of_some _ hol
        have hsls := PySem.F.sub_list_set
        have hslf := PySem.F.sub_list_frozenset
        have hne : (Value.type "list" == Value.type "dict") = false := by decide
        have hl1 : (s.heap.push { cls := .type "set", dict := none, data := .set #[] 0 (.fresh 0 0 (!w.params.followText "set-order")) }).IsList l items := ⟨_, hol', rfl, nl, rfl⟩
        unfold Builtin.«set.__init__» noKeywords Builtin.Frozenset.updateFrom
        generalize hPI : pyIter = PI
        wp_walk
        subst hPI
        refine wpAny_pyIter_list hl1 ?_
        refine wpAny_bind (wpAny_runValue ?_)
        have hlS : l < s.heap.objs.size := Heap.lt_size hol
        have hh3 : A.in1.in1.in1.handled = none := by simp [hh]
        have hz1 : (s.heap.push { cls := .type "set", dict := none, data := .set #[] 0 (.fresh 0 0 (!w.params.followText "set-order")) }).objs.size = s.heap.objs.size + 1 := Heap.size_push ..
        have hneI : l ≠ (s.heap.push { cls := .type "set", dict := none, data := .set #[] 0 (.fresh 0 0 (!w.params.followText "set-order")) }).objs.size := by
          rw [Heap.size_push]; exact Nat.ne_of_lt (Nat.lt_succ_of_lt hlS)
        have hSf : s.heap.objs.size ∉ [(s.heap.push { cls := .type "set", dict := none, data := .set #[] 0 (.fresh 0 0 (!w.params.followText "set-order")) }).objs.size, l] := by
          rw [Heap.size_push]; simp only [List.mem_cons, List.mem_singleton, List.not_mem_nil, or_false, not_or]
          exact ⟨Nat.ne_of_lt (Nat.lt_succ_self _), Nat.ne_of_gt hlS⟩
        refine setR_loop ((Walks.list hh3 _ l hneI items).toS) s.heap.objs.size
          hSf ns hisz hfew hit (items.size - 0) 0 _ (by omega) (Nat.zero_le _)
          ⟨⟨_, Heap.get?_push_size _ rfl, rfl, rfl⟩, (hl1.push _)⟩ ?hS0 ?hR
        case hS0 =>
          refine ⟨0, ?_, Nat.le_refl _⟩
          exact ((setR_fresh w (h := s.heap)).congr fun k => by simp).at fun o e => Heap.get?_push_of_some _ e
        case hR =>
          intro s' c hm hS'
          obtain ⟨h', g2, d', tk', os'⟩ := s'
          have eg : g2 = s.gens := hm.gens
          have ed : d' = s.drawn := hm.drawn
          have eo : os' = s.os := hm.os
          subst eg; subst ed; subst eo
          show wpAny _ _ _ _ _ _
          refine wpAny_pure ?_
          show wpAny _ _ (ret Value.none) _ _ _
          refine wpAny_pure ⟨rfl, h', tk', c, rfl, hS', fun b o hb e => ?_⟩
          refine hm.heap b o ?_ (Heap.get?_push_of_some _ (Heap.get?_push_of_some _ e))
          simp only [List.mem_cons, List.mem_singleton, List.not_mem_nil, or_false, not_or]
          rw [Heap.size_push]
          exact ⟨Nat.ne_of_lt hb, Nat.ne_of_lt (Nat.lt_succ_of_lt hb)⟩
      · cases r₂ with
        | error e => exact hr₂
        | ok fl₂ =>
          cases fl₂ with
          | ret r =>
            obtain ⟨rfl, h', tk, c, rfl, hS', hk'⟩ := hr₂
            repeat (any_goals (first | assumption | wp_step))
            exact h _ _ _ hS' hk'
          | _ => exact hr₂.elim
    | _ => exact hr.elim
end
section
variable {X : Cx} {W : WX} {pos : Pos} {a e : Expr} {ra re : RE}
def rSetI (K : PySem.W.Frag) (w : World) : List V → Hp → VK → Prop := fun xs H Q => ∃ (l : Addr) (ns : List Int), xs = [V.ref l] ∧ SqL K H l (ns.map V.int) ∧ ns.length + 1 < scanBound ∧
  ∀ (p : Addr) (out : List Int), H p = none → out.Nodup → (∀ k, k ∈ out ↔ k ∈ ns) → Q (.ref p) (upd H p (SetO w p (fun x => decide (x ∈ ns)) out.length))
theorem cr_setI (hc : X.calm = true) : CallR X (.type "set") (rSetI X.K X.w) := by
  intro pins s σ H xs us Q I r h
  obtain ⟨l, ns, rfl, hq, hb, q⟩ := h
  rw [Vals.ref1 r]
  obtain ⟨its, rv, pl, hz⟩ := I.list hq
  have hi : IntsAre its ns := by simpa using rv.ints
  have hl : its.toArray.size = ns.length := by rw [List.size_toArray, ← rv.length, List.length_map]
  refine call_set_ints ns (I.ok.hd hc) pl.isList (fun i v e => ?_) hl hb fun h' tk c hS hk => ?_
  · obtain ⟨k, t, e1, e2⟩ := hi.at i v (by simpa using e)
    exact ⟨k, t, e2, e1⟩
  · obtain ⟨o, es, ep, t, ho, hex, hd, g, nd, hm, hb2, hf, hn, hr, hl2⟩ := id hS
    have hlen : (es.toList.map L2.keyOf).length = c := by rw [List.length_map, Array.length_toList]; exact hn
    have hn0 : H s.heap.objs.size = none := I.hok.fresh (Nat.le_refl _)
    refine ⟨.ref s.heap.objs.size, upd H s.heap.objs.size (SetO X.w s.heap.objs.size (fun x => decide (x ∈ ns)) c), I.laid (fun b o e => hk b o (Heap.lt_size e) e) (Nat.le_refl _) (setO_new hS), rfl, ?_⟩
    rw [← hlen]
    refine q _ (es.toList.map L2.keyOf) hn0 nd fun k => ?_
    rw [← hm k, decide_eq_true_eq]
def rLenSO (w : World) : List V → Hp → VK → Prop := fun vs H Q => ∃ (a : Addr) (S : Int → Bool) (n : Nat), vs = [V.ref a] ∧ H a = some (SetO w a S n) ∧ Q (.int n) H
theorem cr_lenSO : CallR X (.builtin "len") (rLenSO X.w) := by
  intro pins s σ H vs us Q I r h
  obtain ⟨a, S, n, rfl, ha, q⟩ := h
  have R := setO_get I ha
  rw [Vals.ref1 r]
  obtain ⟨o, es, ep, t, ho, hex, hd, g, nd, hm, hb2, hf, hn, hr, hl2⟩ := R
  exact call_len_set ho hex hd hf (by have : scanBound = 4096 := rfl; omega) ⟨.int n, H, I.tok _, ⟨_, by rw [hn]⟩, q⟩
/-- len(set(xs)), xs a list of ints -/
def rLenSetI (r : RE) : RE := fun xd n m q => r xd n m fun d m1 => ∃ ns : List Int, lstOf d m1 = some (ns.map D.int) ∧ ns.length ≤ 4000 ∧ ∀ out : List Int, out.Nodup → (∀ k, k ∈ out ↔ k ∈ ns) → q (.int out.length) m1
theorem de_lenSetI {p p2 q : Pos} (hc : X.calm = true) (hg : Gl X "len") (hm : X.mg "len" = none) (hg2 : Gl X "set") (hm2 : X.mg "set" = none) (ha : DE X W a ra)
    (na : starEach [a] X.env = (false, eval a X.env) :: starEach [] X.env := by rfl) : DE X W (.Call (.Name "len" p) [.Call (.Name "set" p2) [a] [] q] [] pos) (rLenSetI ra) :=
  PE.imp (pe_callB cr_lenSO hg hm boot_len (pa_cons (pe_callTy (cr_setI hc) hg2 hm2 PyProof.Rows.boot_set (pa_cons ha pa_nil na) (he := na)) pa_nil)) fun t H Q ⟨n, m, G, xd, q, hn, hs, hl, hr, hq⟩ =>
    ⟨n, m, G, xd, _, hn, hs, hl, hr, fun d m1 v G1 H1 e1 s1 r1 ⟨ns, el, hle, k⟩ => by
      obtain ⟨p, vs, rfl, hp, rv⟩ := lst_at s1 r1 el
      have ev := ints_rep rv rfl
      subst ev
      refine ⟨p, ns, rfl, SqL.of hp, by have : scanBound = 4096 := rfl; omega, fun S out hS nd hmem => ?_⟩
      obtain ⟨s2, e2⟩ := s1.laid hS (SetO X.w S (fun x => decide (x ∈ ns)) out.length)
      exact ⟨S, _, _, rfl, upd_same, hq _ m1 _ _ _ (e1.trans e2) s2 (.int _) (k out nd hmem)⟩⟩
/-- sorted(set(xs)) -/
def rSortSetI (r : RE) : RE := fun xd n m q => r xd n m fun d m1 => ∃ ns : List Int, lstOf d m1 = some (ns.map D.int) ∧ ns.length ≤ 4000 ∧ (∀ out : List Int, out.Nodup → (∀ k, k ∈ out ↔ k ∈ ns) → out.length < 64) ∧ ∀ l : List Int, l.Pairwise (· < ·) → (∀ k, k ∈ l ↔ k ∈ ns) → q (.lst (l.map D.int)) m1
theorem reps_ints {K : PySem.W.Frag} {G : Hp} : ∀ ns : List Int, Reps K G (ns.map D.int) (ns.map V.int)
  | [] => .nil
  | n :: ns => .cons (.int n) (reps_ints ns)
theorem de_sortSetI {p p2 q : Pos} (hc : X.calm = true) (hg : Gl X "sorted") (hm : X.mg "sorted" = none) (hg2 : Gl X "set") (hm2 : X.mg "set" = none) (ha : DE X W a ra)
    (na : starEach [a] X.env = (false, eval a X.env) :: starEach [] X.env := by rfl) : DE X W (.Call (.Name "sorted" p) [.Call (.Name "set" p2) [a] [] q] [] pos) (rSortSetI ra) :=
  PE.imp (pe_callB (cr_sortedSet hc) hg hm bt_sorted (pa_cons (pe_callTy (cr_setI hc) hg2 hm2 PyProof.Rows.boot_set (pa_cons ha pa_nil na) (he := na)) pa_nil)) fun t H Q ⟨n, m, G, xd, q, hn, hs, hl, hr, hq⟩ =>
    ⟨n, m, G, xd, _, hn, hs, hl, hr, fun d m1 v G1 H1 e1 s1 r1 ⟨ns, el, hle, h64, k⟩ => by
      obtain ⟨p, vs, rfl, hp, rv⟩ := lst_at s1 r1 el
      have ev := ints_rep rv rfl
      subst ev
      refine ⟨p, ns, rfl, SqL.of hp, by have : scanBound = 4096 := rfl; omega, fun S out hS nd hmem => ?_⟩
      obtain ⟨s2, e2⟩ := s1.laid hS (SetO X.w S (fun x => decide (x ∈ ns)) out.length)
      refine ⟨S, _, _, rfl, upd_same, h64 out nd hmem, fun l p2 asc mem len hp2 => ?_⟩
      obtain ⟨s3, e3⟩ := s2.laid hp2 (.lst (l.map V.int))
      exact hq _ m1 _ _ _ ((e1.trans e2).trans e3) s3 (.lst upd_same (reps_ints l)) (k l asc fun x => by rw [mem x, decide_eq_true_eq])⟩
end
end DL

/-! DL54: {k: v} of two ints; list(d.values()) of dicts with int and text keys; o[k] = v by the object's own method -/
namespace DL
open PySem PySem.Spec PyProof.Rows L2
section
variable {X : Cx} {W : WX} {pos : Pos}
theorem de_dct1C {k v : Expr} {i j : Int} (hk : PE X k (tC (.int i))) (hv : PE X v (tC (.int j))) : DE X W (.Dict [some k] [v] pos) (rC (.dct false [(.int i, .int j)])) := PE.imp (pe_lk (pe_disp (pps_cons hk hv pps_nil) rfl rfl (by simp) (by simp))) fun t H Q ⟨n, m, G, xd, q, hn, hs, hl, hr, hq⟩ => fun p hp => by
  refine ⟨upd_same, [(.inl i, .int j)], rfl, by simp, [p], by simp, fun q hq => by rw [List.mem_singleton.mp hq]; exact ⟨_, upd_same⟩, fun H2 lk => ?_⟩
  obtain ⟨od, us, h1, h2⟩ := lk.1 p List.mem_cons_self
  rw [upd_same] at h1
  cases h1
  have eH : H2 = upd H p (.frz od (.dK [(.inl i, .int j)])) := by
    funext b
    by_cases hb : b = p
    · rw [hb, h2, upd_same]
      rfl
    · rw [lk.2 b (by simpa using hb), upd_ne hb, upd_ne hb, upd_ne hb]
  subst eH
  obtain ⟨s2, e2⟩ := hs.laid hp (.frz od (.dK [(.inl i, .int j)]))
  exact hq (.dct false [(.int i, .int j)]) m (.ref p) _ _ e2 s2 (.dK upd_same (.cons rfl (.int j) .nil)) hr
/-! ### o[k] = v by the object's own method -/
theorem setItem_own {M : Model} {A : Around} {E : Value → Shared → Prop} {s : Shared} {K : PySem.W.Frag} {x C f : Addr} {ox : Obj} {od : Option Obj} {i v : Value} {Q : Unit → Shared → Prop} (kin : K.In s.heap) (I : PySem.W.InstAt s.heap x ox C od) (hq : PySem.W.noSeq K C = true) (hs : PySem.W.findIn K (.ref C) "__setitem__" = some (some (.ref f))) (hf : PySem.W.isFn K (.ref f) = true)
    (h : wpAny M A (call (.ref f) [.ref x, i, v]) (fun _ s' => Q () s') E s) : wpAny M A (setItem (.ref x) i v) Q E s := by
  unfold setItem sequenceKey
  refine wpAny_holding (wpAny_bind (wpAny_bind (I.type.here ?_)))
  refine wpAny_bind ((PySem.W.anyM_none kin hq).here ?_)
  rw [if_pos (show (!false) = true from rfl)]
  exact wpAny_pure (wpAny_bind (PySem.W.special_fn kin I hs (beq_iff_eq.mp hf) (wpAny_mono h (fun _ _ z => wpAny_pure z) fun _ _ z => z)))
def rPutO (C : Addr) (sp : Sp) : TSet := fun o i v H Q => ∃ a dx fs, o = .ref a ∧ H a = some (.ins C dx fs) ∧ sp [.ref a, i, v] H (fun _ H2 => Q H2) fun _ _ _ => False
theorem set_own {k : Nat} {C f : Addr} {fd : FuncData} {ps : List Str} {sp : Sp} (hf : Meth X.K C "__setitem__" f) (hq : PySem.W.noSeq X.K C = true) (F : FnOk X.prog X.w X.K X.mg X.base (L2.CX X.prog X.w) k f fd ps sp) (hr : Room k X.A) (hb : Binds X.K fd ps []) (hl : ps.length = 3) : PSet X (rPutO C sp) := by
  intro pins s σ H o i v ov iv u Q I ro ri rv h
  obtain ⟨a, dx, fs, rfl, ea, h⟩ := h
  obtain rfl : ov = .ref a := ro
  obtain ⟨mA, O, _, _, _, _⟩ := ins_get I.hok ea
  obtain ⟨od, J, _⟩ := O.look
  refine setItem_own I.kIn J hq hf.at_ hf.fn (wpAny_call (codeAny_mono (F.run X.A X.stack s H ⟨[.ref a, iv, u], []⟩ [.ref a, iv, u] [.ref a, i, v] _ _ hr I.env0 (by simpa using hb s [.ref a, iv, u] I.kIn (by simpa using hl.symm)) (.cons rfl (.cons ri (.cons rv .nil))) h) fun r s' hq => ?_))
  cases r with
  | error er => exact False.elim (pas_nox pins σ H s er s' (I.wish _) hq)
  | ok fl =>
    cases fl with
    | ret u =>
      obtain ⟨v, H', I3, rv, q3⟩ := I.after hq
      exact ⟨H', I3, q3⟩
    | _ => exact False.elim hq
structure SetOb (P : Program) (w : World) (K : PySem.W.Frag) (mg : Str → Option Value) (base : Heap) (k : Nat) (nm : Str) (ps : List Str) (sp : SpD) : Prop where
  ex : ∃ C f fd, ClsI K nm C ∧ Meth K C "__setitem__" f ∧ PySem.W.noSeq K C = true ∧ FnD P w K mg base k f fd ps sp ∧ Binds K fd ps [] ∧ ps.length = 3
variable {e : Expr} {ro ri re : RE}
def rSetOb (nm : Str) (sp : SpD) (ro ri rv : RE) : RS := fun xd e n m => rv xd n m fun v m1 => ro xd n m1 fun o m2 => ri xd n m2 fun i m3 => ∃ fs, insOf o m3 = some (nm, fs) ∧ sp [o, i, v] m3 (fun _ m4 => e.nx n m4) fun _ _ _ => False
theorem ds_setOb {j k : Nat} {nm : Str} {ps : List Str} {sp : SpD} (c : SetOb X.prog X.w X.K X.mg X.base k nm ps sp) (hr0 : Room j X.A) (hkj : k ≤ j) {o i : Expr} {pos' : Pos} (ho : DE X W o ro) (hi : DE X W i ri) (he : DE X W e re) (ha : ∀ v, assign (.Subscript o i pos') X.env v = (do
      let ov ← holding [v] (eval o X.env)
      let iv ← holding [v, ov] (eval i X.env)
      standAt pos'
      holding [v, ov, iv] (setItem ov iv v)
      release [v, ov, iv] []) := by intro _; rfl) (hs : swapsWithSole [.Subscript o i pos'] e pos.line X.env = pure false := by rfl) (hw : swappedStores [.Subscript o i pos'] e X.env = pure none := by rfl)
    (h1 : (assignEach [.Subscript o i pos'] X.env).map (·.2) = [assign (.Subscript o i pos') X.env] := by rfl) : DS X W (.Assign [.Subscript o i pos'] e pos) (rSetOb nm sp ro ri re) := by
  obtain ⟨C, f, fd, ci, hm, hq, F, hb, hl3⟩ := c.ex
  exact PS.imp (ps_asg he (pg_sub ho hi (set_own hm hq F (hr0.mono hkj) hb hl3) ha) hs hw h1) fun D t H ⟨n, m, G, xd, e, hn, hs, hl, hr, L⟩ =>
    ⟨n, m, G, xd, _, hn, hs, hl, hr, fun d m1 v G1 H1 e1 s1 r1 k => ⟨n, m1, G1, xd, _, hn.mono e1, s1, hl.mono e1, k, fun d2 m2 v2 G2 H2 e2 s2 r2 k2 =>
      ⟨n, m2, G2, xd, _, hn.mono (e1.trans e2), s2, hl.mono (e1.trans e2), k2, fun d3 m3 v3 G3 H3 e3 s3 r3 ⟨fs, ei, k3⟩ => by
        obtain ⟨p, C', dx, gs, rfl, ci', hp, rf⟩ := ins_at s3 (r2.mono e3) ei
        have := ci.eq ci'
        subst this
        exact ⟨p, dx, gs, rfl, hp, [d2, d3, d], m3, G3, _, _, .cons (r2.mono e3) (.cons r3 (.cons (r1.mono (e2.trans e3)) .nil)), s3, k3, fun d' m' v' G' H' e4 s4 r4 q4 => L.nx n _ t G' _ (e1.trans (e2.trans (e3.trans e4))) s4 (hn.mono (e1.trans (e2.trans (e3.trans e4)))) q4, fun _ _ _ _ _ _ _ _ _ _ z => z⟩⟩⟩⟩
end
/-! ### list(d.values()) -/
section
variable {X : Cx} {W : WX} {pos : Pos}
theorem RepK.vals {K : PySem.W.Frag} {G : Hp} : ∀ {kvs : List (D × D)} {us : List (Key × V)}, RepK K G kvs us → Reps K G (kvs.map (·.2)) (us.map (·.2))
  | _, _, .nil => .nil
  | _, _, .cons _ r t => .cons r t.vals
theorem pairs_vals {P : Program} {w : World} : ∀ {es : List DictEntry} {vs : List (Key × Value)} {us : List (Key × V)}, Pairs (mixKind P w) es vs → KV us vs → Vals (us.map (·.2)) (es.map (·.val))
  | _, _, _, .nil, r => by
    cases r
    exact .nil
  | _, _, _, .cons (e := e) hk he hp, r => by
    cases r with
    | cons h t =>
      refine .cons ?_ (pairs_vals hp t)
      show RelV _ e.val
      rw [he]
      exact h.2
def tListValsK (td : TE) : TE := fun σ H Q => td σ H fun x H1 => ∃ (p : Addr) (us : List (Key × V)), x = .ref p ∧ Rd H1 p (.dK us) ∧ ∀ l, H1 l = none → Q (.ref l) (upd H1 l (.lst (us.map (·.2))))
theorem pe_listValsK {d : Expr} {td : TE} {p apos cpos : Pos} (hc : X.calm = true) (hg : Gl X "list") (hm : X.mg "list" = none) (hd : PE X d td) (hbase : attributeBase d "values" X.env (eval d X.env) = eval d X.env := by rfl) (hline : (apos.endLine == cpos.line) = true := by rfl)
    (na : starEach [.Call (.Attribute d "values" apos) [] [] cpos] X.env = (false, eval (.Call (.Attribute d "values" apos) [] [] cpos) X.env) :: starEach [] X.env := by rfl) : PE X (.Call (.Name "list" p) [.Call (.Attribute d "values" apos) [] [] cpos] [] pos) (tListValsK td) := by
  refine ⟨fun pins s σ H Q I h => ?_⟩
  refine Call_ (ld_blt I hg hm bt_list ?_)
  refine PyProof.Rows.callWith_type1 (PyProof.Rows.args_cons ?_ na) na rfl
  refine wpAny_Call_method (T := "dict") (id := "dict.values") hbase rfl hline PySem.F.plainAttrs_dict PySem.F.slot_dict_values PySem.F.type_dict_values (thn (hd.run pins s σ H _ I h) fun u s1 ⟨x, H1, I1, rx, q1⟩ => ?_)
  obtain ⟨p, us, rfl, hp, q⟩ := q1
  obtain rfl : u = Value.ref p := rx
  obtain ⟨hl, z, vs, rkv, o, es, ep, ho, hx, hdt, hkeys, hpr, hnd⟩ := dk_rd I1.hok hp
  have hlen : us.length = vs.length := Paired.length rkv
  have hes : es.size = us.length := by
    rw [← Array.length_toList, hpr.length, hlen]
  have hraw : s1.heap.DictRaw p es ep := ⟨o, ho, hx, hdt⟩
  refine ⟨hraw.typeIs, fun a e => by cases e; exact ⟨o, ho, hx.2.1⟩, ?_⟩
  have I2 : Inv X pins σ H1 { s1 with heap := s1.heap.push { cls := .type "dict_values", data := .fields #[.ref p] } } := I1.kept (t' := s1.toks) fun b ob q => Heap.get?_push_of_some _ q
  show wpAny _ _ (callWith cpos (.builtin "dict.values") [.ref p] [] []) _ X.xe s1
  refine method_meetsIn PySem.F.slot_dict_values PySem.F.entry_dict_values rfl (PySem.evalArgs_none ⟨rfl, hraw.typeIs, PySem.F.args_dict_values_1 _, _, PySem.meets_dict_values_raw p z, ⟨_, _, hraw⟩, ?_⟩)
  refine PyProof.Rows.args_nil ?_
  have hraw2 : ({ s1 with heap := s1.heap.push { cls := .type "dict_values", data := .fields #[.ref p] } } : Shared).heap.DictRaw p es ep := ⟨o, Heap.get?_push_of_some _ ho, hx, hdt⟩
  refine PySem.W.kdl_call (KdlSrc.rawValues (prog := X.prog) (w := X.w) (r := s1.heap.objs.size) (d := p) (es := es) (ep := ep)) (I2.ok.hd hc) ⟨⟨_, Heap.get?_push_size _ rfl, rfl, rfl⟩, hraw2⟩ (by omega) fun h' tk acc c hk hS hacc => ?_
  have hn : H1 (s1.heap.push { cls := .type "dict_values", data := .fields #[.ref p] }).objs.size = none := I2.hok.fresh (Nat.le_refl _)
  have eacc : acc.toList = es.toList.map (·.val) := by
    refine List.ext_getElem? fun j => ?_
    by_cases hj : j < acc.size
    · obtain ⟨hi, e2⟩ := hacc.2 j acc[j] (Array.getElem?_eq_getElem hj)
      rw [Array.getElem?_toList, Array.getElem?_eq_getElem hj, List.getElem?_map, Array.getElem?_toList, Array.getElem?_eq_getElem hi, e2]
      rfl
    · rw [List.getElem?_eq_none (by rw [Array.length_toList]; omega), List.getElem?_eq_none (by rw [List.length_map, Array.length_toList, ← hacc.1]; omega)]
  have hv2 : Vals (us.map (·.2)) acc.toList := by
    rw [eacc]
    exact pairs_vals hpr rkv
  refine ⟨.ref (s1.heap.push { cls := .type "dict_values", data := .fields #[.ref p] }).objs.size, _, I2.laid hk (Nat.le_refl _) (o := .lst (us.map (·.2))) ?_, rfl, q _ hn⟩
  refine ⟨?_, acc.toList, c, hv2, ?_⟩
  · rw [List.length_map]
    exact hl
  · simpa using hS
def rListValsK (rd : RE) : RE := fun xd n m q => rd xd n m fun x m1 => ∃ kvs, dctOf x m1 = some (false, kvs) ∧ q (.lst (kvs.map (·.2))) m1
theorem de_listValsK {d : Expr} {rd : RE} {p apos cpos : Pos} (hc : X.calm = true) (hg : Gl X "list") (hm : X.mg "list" = none) (hd : DE X W d rd) (hbase : attributeBase d "values" X.env (eval d X.env) = eval d X.env := by rfl) (hline : (apos.endLine == cpos.line) = true := by rfl)
    (na : starEach [.Call (.Attribute d "values" apos) [] [] cpos] X.env = (false, eval (.Call (.Attribute d "values" apos) [] [] cpos) X.env) :: starEach [] X.env := by rfl) : DE X W (.Call (.Name "list" p) [.Call (.Attribute d "values" apos) [] [] cpos] [] pos) (rListValsK rd) :=
  PE.imp (pe_listValsK hc hg hm hd hbase hline na) fun t H Q ⟨n, m, G, xd, q, hn, hs, hl, hr, hq⟩ =>
    ⟨n, m, G, xd, _, hn, hs, hl, hr, fun x m1 v G1 H1 e1 s1 r1 ⟨kvs, ed, k⟩ => by
      obtain ⟨p, us, rfl, hp, rt⟩ := dctK_at s1 r1 ed
      refine ⟨p, us, rfl, hp, fun l hl => ?_⟩
      obtain ⟨s2, e2⟩ := s1.laid hl (.lst (us.map (·.2)))
      exact hq _ m1 _ _ _ (e1.trans e2) s2 (.lst upd_same (rt.vals.mono e2)) k⟩
end
/-! ### *r, r a list or a tuple -/
def stOf (d : D) (m : Mem) : Option (List D) := match d with
  | .tup ds => some ds
  | d => lstOf d m
def rStarS (r : RE) (ra : RA) : RA := fun xd n m q => r xd n m fun d m1 => ∃ ds, stOf d m1 = some ds ∧ ra xd n m1 fun es m2 => q (ds ++ es) m2
theorem st_at {K : PySem.W.Frag} {G H : Hp} {m : Mem} {d : D} {v : V} {ds : List D} (s : Sep K G m H) (r : Rep K G d v) (h : stOf d m = some ds) : ∃ l us, v = .ref l ∧ (SqT K H l us ∨ SqL K H l us) ∧ Reps K G ds us := by
  have low : ∀ {d : D} {v : V}, Rep K G d v → lstOf d m = some ds → ∃ l us, v = .ref l ∧ (SqT K H l us ∨ SqL K H l us) ∧ Reps K G ds us := fun {d v} r1 el => by
    obtain ⟨l, us, rfl, hl1, ra⟩ := lst_at s r1 el
    exact ⟨l, us, rfl, .inr (SqL.of hl1), ra⟩
  cases d with
  | tup es =>
    cases h
    cases r with
    | tup ea ra => exact ⟨_, _, rfl, .inl (SqT.of (s.sub _ _ ea)), ra⟩
  | _ => exact low r h
section
variable {X : Cx} {W : WX}
theorem da_starS {e : Expr} {es : List Expr} {re : RE} {ra : RA} {p : Pos} (h : DE X W e re) (k : DA X W es ra) : DA X W (.Starred e p :: es) (rStarS re ra) := PA.imp (StX.pa_star h k) fun t H Q ⟨n, m, G, xd, q, hn, hs, hl, hr, hq⟩ =>
  ⟨n, m, G, xd, _, hn, hs, hl, hr, fun d m1 v G1 H1 e1 s1 r1 ⟨ds, el, k1⟩ => by
    obtain ⟨l, us, rfl, hl1, ra⟩ := st_at s1 r1 el
    exact ⟨l, us, rfl, hl1, n, m1, G1, xd, _, hn.mono e1, s1, hl.mono e1, k1, fun es m2 vs G2 H2 e2 s2 r2 k2 => hq _ m2 _ G2 H2 (e1.trans e2) s2 ((ra.mono e2).append r2) k2⟩⟩
end
/-! ### t[a:b], the whole of it too -/
section
variable {X : Cx} {W : WX} {pos p2 : Pos} {e : Expr}
def gSlT : D → Option Int → Option Int → Mem → QD → Prop := fun x lo hi m q => ∃ ds, x = .tup ds ∧ q (.tup (cut ds lo hi)) m
theorem sd_slT : SlR X (lowSl X.K gSlT) := by
  intro pins s σ H x v vl vu lo hi sl Q I rx hsl pl pu ⟨d, m, G, q, hx, hs, ⟨ds, ed, k⟩, hq⟩
  subst ed
  cases hx with
  | tup e r =>
    refine sl_tupA pins s σ H _ v vl vu lo hi sl Q I rx hsl pl pu ⟨_, _, rfl, SqT.of (hs.sub _ _ e), fun hw => ?_, fun hw l hl => ?_⟩
    · rw [← r.length] at hw
      have ec : cut ds lo hi = ds := by
        unfold cut
        rw [hw.1, hw.2]
        simp
      rw [ec] at k
      exact hq.here hs (.tup e r) k
    · obtain ⟨s2, e2⟩ := hs.laid hl (.tup (cutV _ lo hi))
      exact hq _ m _ _ _ e2 s2 (.tup upd_same ((r.cut lo hi).mono e2)) k
def rSlT (r : RE) (rl rh : RO) : RE := fun xd n m q => r xd n m fun x m1 => rl xd n m1 fun lo m2 => rh xd n m2 fun hi m3 => gSlT x lo hi m3 q
theorem de_sliceT {r : RE} {lo hi : Option Expr} {rl rh : RO} (he : DE X W e r) (hl : PO X lo (lowO X.K W rl)) (hu : PO X hi (lowO X.K W rh)) : DE X W (.Subscript e (.Slice lo hi none p2) pos) (rSlT r rl rh) :=
  PE.imp (pe_slice sd_slT he hl hu) fun t H Q ⟨n, m, G, xd, q, hn, hs, hl, hr, hq⟩ =>
    ⟨n, m, G, xd, _, hn, hs, hl, hr, fun d m1 v G1 H1 e1 s1 r1 q1 => ⟨n, m1, G1, xd, _, hn.mono e1, s1, hl.mono e1, q1, fun o1 m2 G2 H2 e2 s2 q2 =>
      ⟨n, m2, G2, xd, _, hn.mono (e1.trans e2), s2, hl.mono (e1.trans e2), q2, fun o2 m3 G3 H3 e3 s3 q3 => ⟨d, m3, G3, q, r1.mono (e2.trans e3), s3, q3, fun d m' v G' H' e4 s4 r4 q4 => hq d m' v G' H' (e1.trans (e2.trans (e3.trans e4))) s4 r4 q4⟩⟩⟩⟩
end
/-! ### a text in a tuple of texts -/
theorem strs_reps {K : PySem.W.Frag} {G : Hp} : ∀ {ls : List (List Nat)} {vs : List V}, Reps K G (ls.map D.str) vs → vs = ls.map fun l => V.str ⟨l.toArray⟩
  | [], _, .nil => rfl
  | l :: ls, _, .cons h r => by
    cases h
    rw [strs_reps r]
    rfl
theorem inV_strs (c : List Nat) : ∀ ls : List (List Nat), inV (.str ⟨c.toArray⟩) (ls.map fun l => V.str ⟨l.toArray⟩) = decide (c ∈ ls)
  | [] => rfl
  | l :: ls => by
    have ih := inV_strs c ls
    unfold inV at ih ⊢
    rw [List.map_cons, List.any_cons, ih]
    have e : eqV (V.str ⟨l.toArray⟩) (V.str ⟨c.toArray⟩) = decide (c = l) := by
      show ((⟨l.toArray⟩ : Str) == ⟨c.toArray⟩) = _
      rw [Bool.eq_iff_iff, beq_iff_eq, decide_eq_true_eq]
      constructor
      · intro h
        have := congrArg (fun s : Str => s.cps.toList) h
        exact this.symm
      · intro h
        rw [h]
    rw [e, Bool.eq_iff_iff]
    simp [List.mem_cons]
theorem flat_strs : ∀ ls : List (List Nat), (ls.map fun l => V.str ⟨l.toArray⟩).all flatV = true
  | [] => rfl
  | l :: ls => by
    rw [List.map_cons, List.all_cons, flat_strs ls]
    rfl
def gInTx : G2 := fun x y m q => ∃ (c : List Nat) (ls : List (List Nat)), x = .str c ∧ y = .tup (ls.map D.str) ∧ q (.bl (decide (c ∈ ls))) m
section
variable {X : Cx}
theorem od_inTx : OpR X (compareOp .In) (low2 X.K gInTx) := opN fun pins s σ H G m dx dy x y v u q Q I rx ry hx hy hs hg hq => by
  obtain ⟨c, ls, rfl, rfl, k⟩ := hg
  cases hx
  cases hy with
  | tup e r =>
    have ev := strs_reps r
    subst ev
    refine op_in_seq pins s σ H _ _ v u Q I rx ry ⟨_, _, rfl, .inr (SqT.of (hs.sub _ _ e)), rfl, flat_strs ls, ?_⟩
    show Q (.bl (inV _ _)) H
    rw [inV_strs]
    exact hq.here hs (.bl _) k
end
end DL

/-! DL55: o[k] and o[k] = v by the object's own methods, with their errors; sorted(d) of dicts with int keys -/
namespace DL
open PySem PySem.Spec PyProof.Rows L2
section
variable {X : Cx} {W : WX} {pos : Pos} {e o i : Expr} {ro ri re : RE}
/-! ### o[k] = v -/
def gPutS (C : Addr) (sp : Sp) (E : L2.St → XK) (to ti : TE) : TG := fun v σ H Q => to σ H fun o H1 => ti σ H1 fun i H2 => ∃ a dx fs, o = .ref a ∧ H2 a = some (.ins C dx fs) ∧ sp [.ref a, i, v] H2 (fun _ H3 => Q σ H3) (E σ)
theorem pg_put {k : Nat} {C f : Addr} {fd : FuncData} {ps : List Str} {sp : Sp} {E : L2.St → XK} {to ti : TE} (hf : Meth X.K C "__setitem__" f) (hq : PySem.W.noSeq X.K C = true) (F : FnOk X.prog X.w X.K X.mg X.base (L2.CX X.prog X.w) k f fd ps sp) (hr : Room k X.A) (hb : Binds X.K fd ps []) (hl : ps.length = 3) (hx : ∀ σ, PassesAt (L2.CX X.prog X.w) X σ (E σ)) (ho : PE X o to) (hi : PE X i ti)
    (ha : ∀ v, assign (.Subscript o i pos) X.env v = (do
      let ov ← holding [v] (eval o X.env)
      let iv ← holding [v, ov] (eval i X.env)
      standAt pos
      holding [v, ov, iv] (setItem ov iv v)
      release [v, ov, iv] []) := by intro _; rfl) : PG X (.Subscript o i pos) (gPutS C sp E to ti) := by
  refine ⟨fun pins s σ H v u Q I r h => ?_⟩
  rw [ha]
  refine wpAny_bind (wpAny_holding (thn (ho.run pins s σ H _ I h) fun ov s1 ⟨x, H1, I1, r1, q1⟩ => ?_))
  refine wpAny_bind (wpAny_holding (thn (hi.run pins s1 σ H1 _ I1 q1) fun iv s2 ⟨y, H2, I2, r2, q2⟩ => ?_))
  obtain ⟨a, dx, fs, rfl, ea, h⟩ := q2
  obtain rfl : ov = .ref a := r1
  have key : wpAny (model X.prog X.w) X.A (setItem (.ref a) iv u) (fun _ s' => ∃ H', Inv X pins σ H' s' ∧ Q σ H') X.xe s2 := by
    obtain ⟨mA, O, _, _, _, _⟩ := ins_get I2.hok ea
    obtain ⟨od, J, _⟩ := O.look
    refine setItem_own I2.kIn J hq hf.at_ hf.fn (wpAny_call (codeAny_mono (F.run X.A X.stack s2 H2 ⟨[.ref a, iv, u], []⟩ [.ref a, iv, u] [.ref a, y, v] _ _ hr I2.env0 (by simpa using hb s2 [.ref a, iv, u] I2.kIn (by simpa using hl.symm)) (.cons rfl (.cons r2 (.cons r .nil))) h) fun r s' hq => ?_))
    cases r with
    | error er => exact hx σ pins H2 s2 er s' I2 hq
    | ok fl =>
      cases fl with
      | ret u =>
        obtain ⟨v, H', I3, rv, q3⟩ := I2.after hq
        exact ⟨H', I3, q3⟩
      | _ => exact False.elim hq
  exact wpAny_bind (wpAny_standAt (wpAny_bind (wpAny_holding (thn key fun _ s3 ⟨H3, I3, q3⟩ => wpAny_release ⟨σ, H3, I3, q3⟩))))
def rPutOb (nm : Str) (sp : SpD) (ro ri rv : RE) : RS := fun xd e n m => rv xd n m fun v m1 => ro xd n m1 fun o m2 => ri xd n m2 fun i m3 => ∃ fs, insOf o m3 = some (nm, fs) ∧ sp [o, i, v] m3 (fun _ m4 => e.nx n m4) fun c fs m' => xd c fs n m'
theorem ds_putOb {j k : Nat} {nm : Str} {ps : List Str} {sp : SpD} (c : SetOb X.prog X.w X.K X.mg X.base k nm ps sp) (hr0 : Room j X.A) (hkj : k ≤ j) (hx : Pas X W) {pos' : Pos} (ho : DE X W o ro) (hi : DE X W i ri) (he : DE X W e re) (ha : ∀ v, assign (.Subscript o i pos') X.env v = (do
      let ov ← holding [v] (eval o X.env)
      let iv ← holding [v, ov] (eval i X.env)
      standAt pos'
      holding [v, ov, iv] (setItem ov iv v)
      release [v, ov, iv] []) := by intro _; rfl) (hs : swapsWithSole [.Subscript o i pos'] e pos.line X.env = pure false := by rfl) (hw : swappedStores [.Subscript o i pos'] e X.env = pure none := by rfl)
    (h1 : (assignEach [.Subscript o i pos'] X.env).map (·.2) = [assign (.Subscript o i pos') X.env] := by rfl) : DS X W (.Assign [.Subscript o i pos'] e pos) (rPutOb nm sp ro ri re) := by
  obtain ⟨C, f, fd, ci, hm, hq, F, hb, hl3⟩ := c.ex
  exact PS.imp (ps_asg he (pg_put (E := WE W) hm hq F (hr0.mono hkj) hb hl3 hx ho hi ha) hs hw h1) fun D t H ⟨n, m, G, xd, e, hn, hs, hl, hr, L⟩ =>
    ⟨n, m, G, xd, _, hn, hs, hl, hr, fun d m1 v G1 H1 e1 s1 r1 k => ⟨n, m1, G1, xd, _, hn.mono e1, s1, hl.mono e1, k, fun d2 m2 v2 G2 H2 e2 s2 r2 k2 =>
      ⟨n, m2, G2, xd, _, hn.mono (e1.trans e2), s2, hl.mono (e1.trans e2), k2, fun d3 m3 v3 G3 H3 e3 s3 r3 ⟨fs, ei, k3⟩ => by
        obtain ⟨p, C', dx, gs, rfl, ci', hp, rf⟩ := ins_at s3 (r2.mono e3) ei
        have := ci.eq ci'
        subst this
        exact ⟨p, dx, gs, rfl, hp, [d2, d3, d], m3, G3, _, _, .cons (r2.mono e3) (.cons r3 (.cons (r1.mono (e2.trans e3)) .nil)), s3, k3, fun d' m' v' G' H' e4 s4 r4 q4 => L.nx n _ t G' _ (e1.trans (e2.trans (e3.trans e4))) s4 (hn.mono (e1.trans (e2.trans (e3.trans e4)))) q4,
          fun nm c fs o m' G' H' e4 s4 r4 q4 => hl nm c fs o n m' t G' H' (e1.trans (e2.trans (e3.trans e4))) s4 (hn.mono (e1.trans (e2.trans (e3.trans e4)))) r4 q4⟩⟩⟩⟩
/-! ### o[k] -/
theorem getItem_own {A : Around} {E : Value → Shared → Prop} {s : Shared} {K : PySem.W.Frag} {x C f : Addr} {ox : Obj} {od : Option Obj} {value slice : Expr} {i : Value} {Q : Value → Shared → Prop} (kin : K.In s.heap) (I : PySem.W.InstAt s.heap x ox C od) (hs : PySem.W.findIn K (.ref C) "__getitem__" = some (some (.ref f))) (hf : PySem.W.fnIn K f = true) (hfn : PySem.W.isFn K (.ref f) = true)
    (h : wpAny (model X.prog X.w) A.in1 (call (.ref f) [.ref x, i]) Q E s)
    (hsl : subscripted slice true (.ref x) i = runValue (.builtin "lifetime.subscript" ⟨[.ref x, i], []⟩)) :
    wpAny (model X.prog X.w) A (subscriptTail value slice (.ref x) i) Q E s := by
  unfold PySem.W.fnIn at hf
  split at hf
  · rename_i e
    unfold subscriptTail getitemInPython
    refine wpAny_bind (wpAny_bind (wpAny_bind (I.type.here ((PySem.W.looks_findIn kin hs).here ?_))))
    dsimp only
    refine wpAny_bind (wpAny_load (kin _ _ e) (wpAny_pure ?_))
    dsimp only
    rw [hsl]
    refine wpAny_bind (wpAny_runValue (codeAny_builtin PySem.W.entry_sub ?_))
    unfold Builtin.«lifetime.subscript»
    refine wpAny_bind (PySem.W.special_fn kin I hs (beq_iff_eq.mp hfn) (wpAny_mono h (fun v s' z => ?_) fun _ _ z => z))
    refine wpAny_pure ?_
    show wpAny (model X.prog X.w) A (letTemporaryGo value (.ref x) v >>= fun _ => pure v) Q E s'
    exact wpAny_bind (wpAny_letTemporaryGo (wpAny_pure z))
  · cases hf
def tGetS (C : Addr) (sp : Sp) (E : L2.St → XK) (to ti : TE) : TE := fun σ H Q => to σ H fun o H1 => ti σ H1 fun i H2 => ∃ a dx fs, o = .ref a ∧ H2 a = some (.ins C dx fs) ∧ sp [.ref a, i] H2 Q (E σ)
theorem pe_getS {k : Nat} {C f : Addr} {fd : FuncData} {ps : List Str} {sp : Sp} {E : L2.St → XK} {to ti : TE} (hf : Meth X.K C "__getitem__" f) (hfi : PySem.W.fnIn X.K f = true) (F : FnOk X.prog X.w X.K X.mg X.base (L2.CX X.prog X.w) k f fd ps sp) (hr : Room (k + 1) X.A) (hb : Binds X.K fd ps []) (hl : ps.length = 2) (hx : ∀ σ, PassesAt (L2.CX X.prog X.w) X σ (E σ)) (ho : PE X o to) (hi : PE X i ti)
    (hsl : ∀ v u, subscripted i true v u = runValue (.builtin "lifetime.subscript" ⟨[v, u], []⟩) := by intro _ _; with_unfolding_all rfl) : PE X (.Subscript o i pos) (tGetS C sp E to ti) := by
  refine ⟨fun pins s σ H Q I h => ?_⟩
  refine Subscript_ (binT ho hi I h fun v u s2 x y H2 I2 rx ry q => ?_)
  obtain ⟨a, dx, fs, rfl, ea, h⟩ := q
  obtain rfl : v = .ref a := rx
  obtain ⟨mA, O, _, _, _, _⟩ := ins_get I2.hok ea
  obtain ⟨od, J, _⟩ := O.look
  refine getItem_own I2.kIn J hf.at_ hfi hf.fn (wpAny_call (codeAny_mono (F.run X.A.in1 X.stack s2 H2 ⟨[.ref a, u], []⟩ [.ref a, u] [.ref a, y] _ _ hr.in1 I2.env0.in1 (by simpa using hb s2 [.ref a, u] I2.kIn (by simpa using hl.symm)) (.cons rfl (.cons ry .nil)) h) fun r s' hq => ?_)) (hsl _ _)
  cases r with
  | error er => exact hx σ pins H2 s2 er s' I2 hq
  | ok fl =>
    cases fl with
    | ret u =>
      obtain ⟨v, H', I3, rv, q3⟩ := I2.after hq
      exact ⟨v, H', I3, rv, q3⟩
    | _ => exact False.elim hq
structure GetOb (P : Program) (w : World) (K : PySem.W.Frag) (mg : Str → Option Value) (base : Heap) (k : Nat) (nm : Str) (ps : List Str) (sp : SpD) : Prop where
  ex : ∃ C f fd, ClsI K nm C ∧ Meth K C "__getitem__" f ∧ PySem.W.fnIn K f = true ∧ FnD P w K mg base k f fd ps sp ∧ Binds K fd ps [] ∧ ps.length = 2
def rGetOb (nm : Str) (sp : SpD) (ro ri : RE) : RE := fun xd n m q => ro xd n m fun o m1 => ri xd n m1 fun i m2 => ∃ fs, insOf o m2 = some (nm, fs) ∧ sp [o, i] m2 q fun c fs m' => xd c fs n m'
theorem de_getOb {j k : Nat} {nm : Str} {ps : List Str} {sp : SpD} (c : GetOb X.prog X.w X.K X.mg X.base k nm ps sp) (hr0 : Room j X.A) (hkj : k + 1 ≤ j) (hx : Pas X W) (ho : DE X W o ro) (hi : DE X W i ri)
    (hsl : ∀ v u, subscripted i true v u = runValue (.builtin "lifetime.subscript" ⟨[v, u], []⟩) := by intro _ _; with_unfolding_all rfl) : DE X W (.Subscript o i pos) (rGetOb nm sp ro ri) := by
  obtain ⟨C, f, fd, ci, hm, hfi, F, hb, hl2⟩ := c.ex
  exact PE.imp (pe_getS (E := WE W) hm hfi F (hr0.mono hkj) hb hl2 hx ho hi hsl) fun t H Q ⟨n, m, G, xd, q, hn, hs, hl, hr, hq⟩ =>
    ⟨n, m, G, xd, _, hn, hs, hl, hr, fun d2 m2 v2 G2 H2 e2 s2 r2 k2 =>
      ⟨n, m2, G2, xd, _, hn.mono e2, s2, hl.mono e2, k2, fun d3 m3 v3 G3 H3 e3 s3 r3 ⟨fs, ei, k3⟩ => by
        obtain ⟨p, C', dx, gs, rfl, ci', hp, rf⟩ := ins_at s3 (r2.mono e3) ei
        have := ci.eq ci'
        subst this
        exact ⟨p, dx, gs, rfl, hp, [d2, d3], m3, G3, _, _, .cons (r2.mono e3) (.cons r3 .nil), s3, k3, fun d' m' v' G' H' e4 s4 r4 q4 => hq d' m' v' G' H' (e2.trans (e3.trans e4)) s4 r4 q4,
          fun nm c fs o m' G' H' e4 s4 r4 q4 => hl nm c fs o n m' t G' H' (e2.trans (e3.trans e4)) s4 (hn.mono (e2.trans (e3.trans e4))) r4 q4⟩⟩⟩
/-! ### sorted(d), d with int keys -/
def gSortDI : List D → Mem → QD → Prop
  | [x], m, q => ∃ (kvs : List (D × D)) (ks : List Int), dctOf x m = some (false, kvs) ∧ kvs.map (·.1) = ks.map D.int ∧ ks.length < 64 ∧ ∀ ys : List Int, ys.Perm ks → ys.Pairwise (· ≤ ·) → q (.lst (ys.map D.int)) m
  | _, _, _ => False
theorem RepK.intKeys {K : PySem.W.Frag} {G : Hp} : ∀ {kvs : List (D × D)} {us : List (Key × V)} {ks : List Int}, RepK K G kvs us → kvs.map (·.1) = ks.map D.int → us.map (·.1) = ks.map Sum.inl
  | _, _, [], .nil, _ => rfl
  | _, _, k :: ks, .nil, e => by cases e
  | _, _, [], .cons _ _ _, e => by cases e
  | _, _, k :: ks, .cons (d := d) h r t, e => by
    rw [List.map_cons, List.map_cons] at e
    injection e with e1 e2
    rw [List.map_cons, List.map_cons, t.intKeys e2]
    congr 1
    have e1 : d = D.int k := e1
    rw [e1] at h
    exact (Option.some.inj h).symm
theorem cd_sortDI (hc : X.calm = true) : CallR X (.builtin "sorted") (lowC X.K gSortDI) := crN (call_sortedDI hc) fun H G m ds vs q Q hr hs hg hq => by
  unfold gSortDI at hg
  split at hg
  · obtain ⟨kvs, ks, e, ek, hl, k⟩ := hg
    cases hr with
    | cons h t =>
      cases t
      obtain ⟨p, us, rfl, hp, rt⟩ := dctK_at hs h e
      refine ⟨p, us, ks, rfl, hp, rt.intKeys ek, hl, fun ys l hper hsr hn => ?_⟩
      obtain ⟨s2, e2⟩ := hs.laid hn (.lst (ys.map V.int))
      exact hq _ m _ _ _ e2 s2 (.lst upd_same (reps_ints ys)) (k ys hper hsr)
  · exact False.elim hg
/-- sorted(xs) of ints -/
def gSortLI : List D → Mem → QD → Prop
  | [x], m, q => ∃ ks : List Int, lstOf x m = some (ks.map D.int) ∧ ∀ ys : List Int, ys.Perm ks → ys.Pairwise (· ≤ ·) → q (.lst (ys.map D.int)) m
  | _, _, _ => False
theorem cd_sortLI : CallR X (.builtin "sorted") (lowC X.K gSortLI) := crN cr_sortedI fun H G m ds vs q Q hr hs hg hq => by
  unfold gSortLI at hg
  split at hg
  · obtain ⟨ks, e, k⟩ := hg
    cases hr with
    | cons h t =>
      cases t
      obtain ⟨p, vs, rfl, hp, rv⟩ := lst_at hs h e
      have ev := ints_rep rv rfl
      subst ev
      refine ⟨p, ks, rfl, SqL.of hp, fun ys l hper hsr hn => ?_⟩
      obtain ⟨s2, e2⟩ := hs.laid hn (.lst (ys.map V.int))
      exact hq _ m _ _ _ e2 s2 (.lst upd_same (reps_ints ys)) (k ys hper hsr)
  · exact False.elim hg
/-- xs + ys, a list of one's own -/
def gAddO : G2 := fun x y m q => ∃ a b, lstOf x m = some a ∧ lstOf y m = some b ∧ a.length + b.length ≤ sizeLine ∧ ∀ p, m p = none → q (.ref p) (mset m p (.lst (a ++ b)))
theorem od_addO : OpR X (binaryOp .Add) (low2 X.K gAddO) := opN fun pins s σ H G m dx dy x y v u q Q I rx ry hx hy hs hg hq => by
  obtain ⟨a, b, ea, eb, hz, k⟩ := hg
  obtain ⟨p, vs, rfl, hp, ra⟩ := lst_at hs hx ea
  obtain ⟨p', us, rfl, hp', rb⟩ := lst_at hs hy eb
  refine op_cat pins s σ H _ _ v u Q I rx ry ⟨p, p', vs, us, rfl, rfl, hp, hp', by rw [← ra.length, ← rb.length]; exact hz, fun l hl => ?_⟩
  exact hq _ _ _ G _ (Same.refl G) (hs.alloc hl (.lst (ra.append rb))) (.ref l) (k l (hs.freeM hl))
end
end DL

/-! DL56: exceptions of one's own as values: made, asked what they were given, of which class they are; a list is not unequal to itself -/
namespace DL
open PySem PySem.Spec PyProof.Rows L2
section
variable {X : Cx} {W : WX} {p pos apos : Pos} {e : Expr} {es : List Expr} {ta : TA} {re : RE}
/-- X(e) -/
theorem pe_oexV {CX : CXT} {x : Str} {C fI : Addr} {k : Nat} {fd : FuncData} {ps : List Str} {sp : Sp} {ds : List Value} {dvs : List V} (T : OexC X.K C) (iC : PySem.W.findIn X.K (.ref C) "__init__" = some (some (.ref fI))) (tI : PySem.W.typeIn X.K (.ref fI) = some (.type "function"))
    (F1 : FnOk X.prog X.w X.K X.mg X.base CX k fI fd ps sp) (hr : Room (k + 1) X.A) (hb : Binds X.K fd ps ds) (hd : Vals dvs ds) (hx : Passes CX X (fun _ _ _ => False)) (hg : Gl X x) (hm : X.mg x = some (.ref C)) (ha : PA X (e :: es) ta)
    (hdb : (x == ("__debug__" : Str)) = false := by decide) (he : starEach (e :: es) X.env = (false, eval e X.env) :: starEach es X.env := by rfl) (hpl : (backTo pos (starEach es X.env)).any (·.1) = false := by rfl) :
    PE X (.Call (.Name x p) (e :: es) [] pos) (fun σ H Q => ta σ H fun vs H1 => vs.length ≤ 1000 ∧ ∀ a, H1 a = none → sp (.ref a :: (vs ++ dvs)) (upd H1 a (exo a C none)) (fun v H2 => v = .non ∧ Q (.ref a) H2) (fun _ _ _ => False)) := by
  refine ⟨fun pins s σ H Q I h => ?_⟩
  obtain ⟨nm, q, N, bs, bm, sn, sub, ab, col, dd, k0, k1, k2, k3, k5, hC, hbm⟩ := T.cls
  refine wpAny_Call_Name_kw (ld_glob I hg hm ?_ hdb)
  refine PySem.W.callWith_K (h₀ := X.base) I.ok.mod.kin T.kC (thn (ha.run pos pins s σ H _ I h) fun us s1 ⟨vs, H1, I1, r1, hz, q1⟩ => ⟨I1.kIn, ?_⟩) he hpl
  show wpAny _ _ (call (.ref C) us) _ _ _
  obtain ⟨hp, g, dr, tk, os⟩ := s1
  have hsz : hp.objs.size ≤ hp.objs.size + 1 := Nat.le_succ _
  have hn : H1 (hp.objs.size + 1) = none := I1.hok.fresh hsz
  have hq := q1 (hp.objs.size + 1) hn
  have kk : ∀ b o, hp.get? b = some o → ((hp.push (PySem.W.kdv_tup us)).push (PySem.HandSPX.excO C hp.objs.size)).get? b = some o := fun b o e => Heap.get?_push_of_some _ (Heap.get?_push_of_some _ e)
  have hget : ((hp.push (PySem.W.kdv_tup us)).push (PySem.HandSPX.excO C hp.objs.size)).get? (hp.objs.size + 1) = some (PySem.HandSPX.excO C hp.objs.size) := by heap_get
  have I2 : Inv X pins σ (upd H1 (hp.objs.size + 1) (exo (hp.objs.size + 1) C none)) ⟨(hp.push (PySem.W.kdv_tup us)).push (PySem.HandSPX.excO C hp.objs.size), g, dr, tk, os⟩ :=
    I1.laid (t' := tk) (a := hp.objs.size + 1) (o := exo (hp.objs.size + 1) C none) (h' := (hp.push (PySem.W.kdv_tup us)).push (PySem.HandSPX.excO C hp.objs.size)) kk hsz (exo_ok hget)
  have r2 : Vals (V.ref (hp.objs.size + 1) :: (vs ++ dvs)) (Value.ref (hp.objs.size + 1) :: (us ++ ds)) := .cons rfl (r1.append hd)
  have hl : (Value.ref (hp.objs.size + 1) :: us ++ ds).length = ps.length := by
    have e := r2.length
    rw [F1.len _ _ _ _ hq] at e
    exact e.symm
  have hus : us.length ≤ sizeLine := by
    rw [← Paired.length r1, sizeLine_eq]
    omega
  refine wpAny_call (PySem.HandSPX.call_own F.excBase_ValueError (fun Y => PySem.HandSPX.refsVE_contains Y bm hbm) (I1.kIn _ _ hC) (PySem.W.looks_findIn I1.kIn iC) (fun self => PySem.W.bind_fn I1.kIn self tI) hus
    (codeAny_mono (F1.run _ X.stack _ _ ⟨Value.ref (hp.objs.size + 1) :: us, []⟩ (Value.ref (hp.objs.size + 1) :: (us ++ ds)) _ _ (fun _ _ _ => False) (hr.make C us []) (I2.env0.make C us []) (hb _ (Value.ref (hp.objs.size + 1) :: us) I2.kIn hl) r2 hq) fun r s' hq' => ?_))
  cases r with
  | error er => exact hx pins σ _ _ er s' I2 hq'
  | ok fl =>
    cases fl with
    | ret u =>
      obtain ⟨v, H2, I3, rv, ev, q2⟩ := I2.after hq'
      subst ev
      exact ⟨rv, .ref (hp.objs.size + 1), H2, I3, rfl, q2⟩
    | next => exact False.elim hq'
    | brk => exact False.elim hq'
    | cont => exact False.elim hq'
def rMkX (nm : Str) (r : RE) : RE := fun xd n m q => r xd n m fun d m1 => ∀ a, m1 a = none → q (.exc a .none none nm [("given", d)]) m1
theorem de_mkX {nm : Str} {j k : Nat} (c : ExcD X.prog X.w X.K X.mg X.base k nm) (hr : Room j X.A) (hk : k + 1 ≤ j) (hg : Gl X nm) (he : DE X W e re) (hdb : (nm == ("__debug__" : Str)) = false := by decide)
    (hst : starEach [e] X.env = [(false, eval e X.env)] := by rfl) : DE X W (.Call (.Name nm p) [e] [] pos) (rMkX nm re) := by
  obtain ⟨C, fI, fd, T, iC, tI, F, B, hm, cl, hf⟩ := c.ex
  refine PE.imp (pe_oexV T iC tI F (hr.mono hk) B .nil passL hg hm (pa_cons he pa_nil hst) hdb hst rfl) fun t H Q ⟨n, m, G, xd, q, hn, hs, hl, hr, hq⟩ => ?_
  refine ⟨n, m, G, xd, _, hn, hs, hl, hr, fun d m1 v G1 H1 e1 s1 r1 k1 => ⟨by simp, fun a ha => ?_⟩⟩
  refine ⟨a, C, v, rfl, T, hf, upd_same, fun dx hdx ne => ⟨rfl, ?_⟩⟩
  have hdx1 : H1 dx = none := by
    rw [upd_ne ne] at hdx
    exact hdx
  have eH : upd (upd (upd H1 a (exo a C none)) dx (exd dx [("given", v)])) a (exo a C (some dx)) = upd (upd H1 dx (exd dx [("given", v)])) a (exo a C (some dx)) := by
    funext b
    by_cases hb : b = a
    · rw [hb, upd_same, upd_same]
    · rw [upd_ne hb, upd_ne hb]
      by_cases hbd : b = dx
      · rw [hbd, upd_same, upd_same]
      · rw [upd_ne hbd, upd_ne hbd, upd_ne hb]
  rw [eH]
  obtain ⟨s2, e2⟩ := s1.laid hdx1 (exd dx [("given", v)])
  have ha2 : upd H1 dx (exd dx [("given", v)]) a = none := by rw [upd_ne (Ne.symm ne)]; exact ha
  obtain ⟨s3, e3⟩ := s2.laid ha2 (exo a C (some dx))
  exact hq _ m1 (.ref a) _ _ ((e1.trans e2).trans e3) s3 (.exv cl upd_same (e3 _ _ upd_same) (.cons (r1.mono (e2.trans e3)) .nil)) (k1 a (s1.freeM ha))
/-- X() -/
theorem pe_exc0 {C : Addr} {bmB : List Value} {B newId initId : String} {x : Str} (F : ExcBaseFacts B newId initId bmB) (q : PySem.W.excIn X.K C bmB newId = true) (gC : X.mg x = some (.ref C)) (kC : PySem.W.keepIn X.K (.ref C) = true) (hg : Gl X x) (hdb : (x == ("__debug__" : Str)) = false := by decide) :
    PE X (.Call (.Name x p) [] [] pos) (fun σ H Q => ∀ a, H a = none → Q (.ref a) (upd H a (ExO (.ref C) a))) := by
  refine ⟨fun pins s σ H Q I h => ?_⟩
  refine wpAny_Call_NameR (ld_glob I hg gC ?_ hdb)
  refine PySem.W.callWith_K0 I.kIn kC ?_
  rw [List.append_nil]
  obtain ⟨bm, N, nm, qn, bs, hdct, sn, sub, ab, col, dd, k0, k1, k2, k3, k5, mN, hC, hN, hni, T⟩ := exc_obj I.kIn q
  refine wpAny_call_exc_subT F T hC hN hni (fun h' a hm => ?_) (Nat.zero_le _)
  have hn : H a = none := I.hok.gone hm.new
  obtain ⟨t, ht, _, _⟩ := hm.there
  exact ⟨.ref a, upd H a (ExO (.ref C) a), I.laidN hm.keeps hm.new hn (exO_ok ht ⟨rfl, rfl⟩ rfl rfl rfl (show 4 < 6 by decide)), rfl, h a hn⟩
def rMkX0 (nm : Str) : RE := fun xd n m q => ∀ a, m a = none → q (.exc a .none none nm []) m
theorem de_mkX0 {nm : Str} (c : Exc0D X.K X.mg nm) (hg : Gl X nm) (hdb : (nm == ("__debug__" : Str)) = false := by decide) : DE X W (.Call (.Name nm p) [] [] pos) (rMkX0 nm) := by
  obtain ⟨C, bmB, B, newId, initId, F, q, hm, kC, sC, tC, cl⟩ := c.ex
  refine PE.imp (pe_exc0 F q hm kC hg hdb) fun t H Q ⟨n, m, G, xd, q, hn, hs, hl, hr, hq⟩ => fun a ha => ?_
  obtain ⟨s2, e2⟩ := hs.laid ha (ExO (.ref C) a)
  exact hq _ m (.ref a) _ _ e2 s2 (.exv0 cl upd_same) (hr a (hs.freeM ha))
/-- .given of such a one -/
def rXv (re : RE) : RE := fun xd n m q => re xd n m fun d m1 => ∃ a nm fs x, d = .exc a .none none nm fs ∧ fs.lookup ("given" : Str) = some x ∧ q x m1
theorem de_xv (T : Tab X.K) (he : DE X W e re) (hb : attributeBase e "given" X.env (eval e X.env) = eval e X.env := by rfl) : DE X W (.Attribute e "given" pos) (rXv re) := by
  refine ⟨fun pins s σ H Q I ⟨n, m, G, xd, q, hn, hs, hl, hr, hq⟩ => ?_⟩
  refine attr_of hb (thn (he.run pins s σ H (fun v H1 => ∃ a C dd gs y, v = .ref a ∧ XfC X.K C ∧ PySem.W.findIn X.K (.ref C) "given" = some none ∧ H1 a = some (exo a C (some dd)) ∧ H1 dd = some (exd dd gs) ∧ gs.lookup ("given" : Str) = some y ∧ Q y H1) I ⟨n, m, G, xd, _, hn, hs, hl, hr, fun dx m1 v G1 H1 e1 s1 r1 ⟨a, nm, fs, y, ed, el, k⟩ => ?_⟩) fun u s1 hh => ?_)
  · subst ed
    cases r1 with
    | exv c h1 h2 r =>
      obtain ⟨C, ec, xf, _, hg⟩ := T.ref c
      cases ec
      obtain ⟨v, ev, rv⟩ := r.lookup el
      exact ⟨a, _, _, _, v, rfl, xf, hg, s1.sub _ _ h1, s1.sub _ _ h2, ev, hq y m1 v G1 H1 e1 s1 rv k⟩
    | exv0 c h1 => cases el
    | exc0 c => cases el
  · obtain ⟨x, H1, I1, rx, a, C, dd, gs, y, rfl, xf, hg, ha, hdd, hlk, k⟩ := hh
    obtain rfl : u = Value.ref a := rx
    obtain ⟨t1, hoa⟩ := exo_at I1.hok ha
    obtain ⟨mA, hns, hr⟩ := exd_at I1.hok hdd
    obtain ⟨od, ho, hl⟩ := lookIn_ns hns
    obtain ⟨u, hu, ru⟩ := RelO.some_of (v := y) (o := mA "given") (by rw [← hlk]; exact hr "given")
    have J : PySem.W.InstAt s1.heap a _ C (some od) := ⟨hoa, rfl, rfl, ho⟩
    exact HandSPX.exc_get I1.kIn J xf.ga xf.gg xf.exC (PySem.W.findObj_own xf.hdC hg rfl (by rw [hl, hu])) (handed_of ru) ⟨y, H1, I1.tok _, ru, k⟩
/-- what stands where such a one is -/
theorem exAt_inst {pins : List (Addr × Obj)} {σ : L2.St} {H : Hp} {s : Shared} {a C : Addr} (I : Inv X pins σ H s) (h : (∃ dd gs, H a = some (exo a C (some dd)) ∧ H dd = some (exd dd gs)) ∨ H a = some (ExO (.ref C) a)) : ∃ ox, ∃ od, PySem.W.InstAt s.heap a ox C od := by
  rcases h with ⟨dd, gs, h1, h2⟩ | h1
  · obtain ⟨t1, hoa⟩ := exo_at I.hok h1
    obtain ⟨mA, ⟨o, es, ep, eo, _⟩, _⟩ := exd_at I.hok h2
    exact ⟨_, some o, hoa, rfl, rfl, eo⟩
  · have z : ObjOk X.prog X.w H s.heap a (ExO (.ref C) a) := I.hok a _ h1
    obtain ⟨⟨oe, vs, g1, g2, g3, _⟩, _⟩ := z
    obtain ⟨oc, oo, oda, osl⟩ := oe
    obtain ⟨z1, z2⟩ := g2
    dsimp only at z1 z2 g3
    subst z1 z2 g3
    exact ⟨_, none, g1, rfl, rfl, trivial⟩
/-- isinstance(e, R) -/
def rIsV (R : Str) (re : RE) : RE := fun xd n m q => re xd n m fun d m1 => ∃ a nm fs, d = .exc a .none none nm fs ∧ q (.bl (isSub nm R)) m1
theorem de_isv {R : Str} {p p2 : Pos} (T : Tab X.K) (hm : ∃ c, X.mg R = some c ∧ ClsK X.K R c) (hg : Gl X R) (hg2 : Gl X "isinstance") (hm2 : X.mg "isinstance" = none) (he : DE X W e re)
    (hdb : (R == ("__debug__" : Str)) = false := by decide) (hs : starEach [e, .Name R p2] X.env = [(false, eval e X.env), (false, eval (.Name R p2) X.env)] := by rfl) (hs2 : starEach [.Name R p2] X.env = [(false, eval (.Name R p2) X.env)] := by rfl) :
    DE X W (.Call (.Name "isinstance" p) [e, .Name R p2] [] pos) (rIsV R re) := by
  obtain ⟨c', em, kc⟩ := hm
  refine ⟨fun pins s σ H Q I ⟨n, m, G, xd, q, hn, hsp, hl, hr, hq⟩ => ?_⟩
  refine Call_ (ld_blt I hg2 hm2 bt_isinstance ?_)
  refine PyProof.Rows.callWith_builtin1 (PyProof.Rows.args_cons (thn (he.run pins s σ H (fun v H1 => ∃ a C b, v = .ref a ∧ ExcC X.K C ∧ PySem.W.kitOne X.K (.ref C) c' = some b ∧ ((∃ dd gs, H1 a = some (exo a C (some dd)) ∧ H1 dd = some (exd dd gs)) ∨ H1 a = some (ExO (.ref C) a)) ∧ Q (.bl b) H1) I ⟨n, m, G, xd, _, hn, hsp, hl, hr, fun dx m1 v G1 H1 e1 s1 r1 ⟨a, nm, fs, ed, k⟩ => ?_⟩) fun u s1 hh => ?_) hs) hs rfl
  · subst ed
    cases r1 with
    | exv c h1 h2 r =>
      obtain ⟨C, ec, _, xc, _⟩ := T.ref c
      cases ec
      exact ⟨a, _, isSub nm R, rfl, xc, T.kit c kc, .inl ⟨_, _, s1.sub _ _ h1, s1.sub _ _ h2⟩, hq _ m1 _ G1 H1 e1 s1 (.bl _) k⟩
    | exv0 c h1 =>
      obtain ⟨C, ec, _, xc, _⟩ := T.ref c
      cases ec
      exact ⟨a, _, isSub nm R, rfl, xc, T.kit c kc, .inr (s1.sub _ _ h1), hq _ m1 _ G1 H1 e1 s1 (.bl _) k⟩
    | exc0 c =>
      obtain ⟨C, ec, _⟩ := T.ref c
      cases ec
  · obtain ⟨x, H1, I1, rx, a, C, b, rfl, xc, hk, hx, k⟩ := hh
    obtain rfl : u = Value.ref a := rx
    refine PyProof.Rows.args_cons (ld_glob I1 hg em (PyProof.Rows.args_nil ?_) hdb) hs2
    obtain ⟨ox, J⟩ := exAt_inst I1 hx
    exact PySem.W.kia_one (kitx_exc (ox := ox) xc) I1.kIn J hk (fun z => nomatch z) fun tk => ⟨.bl b, H1, I1.kept (t' := tk) fun _ _ z => z, rfl, k⟩
/-- isinstance(e, ValueError) -/
structure VeD (K : PySem.W.Frag) : Prop where
  ve : ∀ {nm : Str} {C : Addr}, ClsK K nm (.ref C) → PySem.W.kitOne K (.ref C) (.type "ValueError") = some true
theorem ve_mk {K : PySem.W.Frag} {R : Addr} (os : List (Option Addr)) (hR : ExF K R "RestError" R) (h : exAll K R excL os) : VeD K := ⟨fun {nm C} ⟨hm, hn⟩ => by
  obtain ⟨C', ec, e⟩ := exAll_at h hm hn
  cases ec
  unfold PySem.W.kitOne
  rw [if_neg (by simp)]
  unfold PySem.W.kitCls
  simp only []
  rw [if_pos (by decide +kernel), e.sub]
  congr 1
  have : HandSPX.veTail.contains (.type "ValueError") = true := by decide +kernel
  rw [List.contains_iff_mem] at this ⊢
  refine List.mem_cons_of_mem _ ?_
  unfold bmOf
  split
  · exact this
  · exact List.mem_cons_of_mem _ this⟩
def rIsVE (re : RE) : RE := fun xd n m q => re xd n m fun d m1 => ∃ a nm fs, d = .exc a .none none nm fs ∧ q (.bl true) m1
theorem de_isve {p p2 : Pos} (T : Tab X.K) (V : VeD X.K) (hg : Gl X "ValueError") (hm : X.mg "ValueError" = none) (hg2 : Gl X "isinstance") (hm2 : X.mg "isinstance" = none) (he : DE X W e re)
    (hs : starEach [e, .Name "ValueError" p2] X.env = [(false, eval e X.env), (false, eval (.Name "ValueError" p2) X.env)] := by rfl) (hs2 : starEach [.Name "ValueError" p2] X.env = [(false, eval (.Name "ValueError" p2) X.env)] := by rfl) :
    DE X W (.Call (.Name "isinstance" p) [e, .Name "ValueError" p2] [] pos) (rIsVE re) := by
  refine ⟨fun pins s σ H Q I ⟨n, m, G, xd, q, hn, hsp, hl, hr, hq⟩ => ?_⟩
  refine Call_ (ld_blt I hg2 hm2 bt_isinstance ?_)
  refine PyProof.Rows.callWith_builtin1 (PyProof.Rows.args_cons (thn (he.run pins s σ H (fun v H1 => ∃ a C, v = .ref a ∧ ExcC X.K C ∧ PySem.W.kitOne X.K (.ref C) (.type "ValueError") = some true ∧ ((∃ dd gs, H1 a = some (exo a C (some dd)) ∧ H1 dd = some (exd dd gs)) ∨ H1 a = some (ExO (.ref C) a)) ∧ Q (.bl true) H1) I ⟨n, m, G, xd, _, hn, hsp, hl, hr, fun dx m1 v G1 H1 e1 s1 r1 ⟨a, nm, fs, ed, k⟩ => ?_⟩) fun u s1 hh => ?_) hs) hs rfl
  · subst ed
    cases r1 with
    | exv c h1 h2 r =>
      obtain ⟨C, ec, _, xc, _⟩ := T.ref c
      cases ec
      exact ⟨a, _, rfl, xc, V.ve c, .inl ⟨_, _, s1.sub _ _ h1, s1.sub _ _ h2⟩, hq _ m1 _ G1 H1 e1 s1 (.bl _) k⟩
    | exv0 c h1 =>
      obtain ⟨C, ec, _, xc, _⟩ := T.ref c
      cases ec
      exact ⟨a, _, rfl, xc, V.ve c, .inr (s1.sub _ _ h1), hq _ m1 _ G1 H1 e1 s1 (.bl _) k⟩
    | exc0 c =>
      obtain ⟨C, ec, _⟩ := T.ref c
      cases ec
  · obtain ⟨x, H1, I1, rx, a, C, rfl, xc, hk, hx, k⟩ := hh
    obtain rfl : u = Value.ref a := rx
    refine PyProof.Rows.args_cons (ld_blt I1 hg hm boot_ValueError (PyProof.Rows.args_nil ?_)) hs2
    obtain ⟨ox, J⟩ := exAt_inst I1 hx
    exact PySem.W.kia_one (kitx_exc (ox := ox) xc) I1.kIn J hk (fun z => nomatch z) fun tk => ⟨.bl true, H1, I1.kept (t' := tk) fun _ _ z => z, rfl, k⟩
/-- a list is not unequal to itself -/
def gNeSL : G2 := fun x y m q => ∃ ds, x = .lst ds ∧ y = .lst ds ∧ thD 50 (.lst ds) = true ∧ q (.bl false) m
theorem odNeSL (hu : X.A.units + 64 < cLine) : OpR X (compareOp .NotEq) (low2 X.K gNeSL) := opN fun pins s σ H G m dx dy x y v u q Q I rx ry hx hy hs hg hq => by
  obtain ⟨ds, rfl, rfl, ht, k⟩ := hg
  cases hx with
  | lst e1 q1 =>
    cases hy with
    | lst e2 q2 =>
      cases rx
      cases ry
      have ht : thDs 49 ds = true := by simpa [thD] using ht
      obtain ⟨us, v1, t1, _⟩ := I.list (SqL.of (hs.sub _ _ e1))
      obtain ⟨ws, v2, t2, _⟩ := I.list (SqL.of (hs.sub _ _ e2))
      have l1 : us.length = ws.length := by rw [← v1.length, ← v2.length, ← q1.length, ← q2.length]
      have k2 := SeqAt.RcNeAt.lists (A := X.A) (e := fun _ => true) t1.isList t2.isList (by simpa using l1) (by omega) fun j h1 h2 => by
        have := same_all I (A := X.A.in1) (q1.mono hs.sub) (q2.mono hs.sub) ht v1 v2 (by show X.A.units + 1 + 49 < cLine; omega) j (by simpa using h1) (by simpa using h2)
        simpa using this
      rw [show ((List.range us.toArray.size).all fun _ => true) = true from List.all_eq_true.mpr fun _ _ => rfl] at k2
      exact k2 X.prog X.w _ _ ⟨.bl false, H, I, rfl, hq.here hs (.bl _) k⟩
end
end DL

namespace DL
open PySem PySem.Spec PyProof.Rows L2
/-! the law's bag and what it draws -/
local macro_rules | `(tactic| walk_at "rd") => `(tactic| simp only [rSetU, rGetE, gGetE, rSetDef, gSetDef, rListVals, gInTx, rSlT, gSlT, rStarS, rListValsK, rLenSetI, rSortSetI, rSetOb, rGetOb, rMkX, rMkX0, rXv, rIsV, rIsVE, rPutOb, gSortDI, gSortLI, gAddO, gInKD, rDct0K, rSetK, rInK, rGetK, gGetK, gDictP, rBack, rRngB, gSum, rLam, rGive, rDeed, rRaise0, rForK, rStar, rDcT, rbPutT, gMaxP, rSlO, gSlO, rPar, rMinLen, gMinL, rInD, rSetT, rDct0T, rDct1T, rDc, rLcG, rbClause, rbEmit, rZip2, rZip3, rCallO, gLenD, gLenO, gMaxL, gSortL, gSortLO, rGetT, gGetT, gSortD, gSortDO, gKeysT, gKeysTO, rAsgL, gEqS, gInTN, rFld, rSetF, rMeth, rMake, rFrzI, rProp, rIsC, rRev, rAllK, rLcK, rLcKO, ew0, ew1, ew2, ew3, ew4, ew5, ew6, rRaise, rTry, xCls, enO, setO, rXf, rIsX, Option.elim_some, Option.elim_none, rSeq, rSet, rAsg, rRet, rRetN, rDrop, rIf, rSkip, rVar, rC, rOp, rUn, rTst, rTru, rNot, rAnd, rOr, rAndV, rOrV, rNotV, rIfE, rChain, rCons, rNil, rTup, rLst, rLstO, rCB, rLM, rSM, rSl, rPart, rNoPart, rAll, rRng1, rRng2, rFor, rCall, rAug, rSetIx, rLenSet, rFmt, rJoined, rJs, rLc, rLcO, rFrz, setAll, rYes, rNever, wipeN, nvs, enD, turnD, gNe, gLt, gLe, gGt, gGe, gIn, gNotIn, gIs, gIsNot, gMod, gFdiv, gPow, gAppend, gPop, gPopAt, gClear, gReverse, gExtend, gJoin, gSplit, nm_T, tp_T, at_0, at_1, at_2, at_3, at_4, at_5, at_6, at_7, ix_0, ix_1, ix_2, ix_3, ix_4, List.map_cons, List.map_nil, List.length_cons, List.length_nil, List.replicate, List.cons_append, List.nil_append, List.getElem?_cons_zero, List.getElem?_cons_succ, List.set_cons_zero, List.set_cons_succ, Option.some.injEq, exists_eq_left', exists_eq_left, exists_and_left, D.int.injEq, D.str.injEq, D.bl.injEq, D.ref.injEq, D.tup.injEq, D.lst.injEq, MO.lst.injEq, List.cons.injEq, and_true, true_and, if_true, if_false, Bool.false_eq_true, Nat.reduceSub, Nat.reduceAdd, reduceIte, reduceCtorEq, mset_same, mset_mset, Bool.not_true, Bool.not_false, imp_self, implies_true, not_false_eq_true, forall_const, ev0, ev1, ev2, ev3, ev4, ev5, ev6, ev7, ev8, ev9, ev10, ev11, ev12, ev13, ev14, ev15, ev16, ev17, ev18, ev19, ev20, ev21, ev22, ev23, ev24, ev25, ev26, ev27, ev28, ev29, ev30, ev31, ev32, ev33, ev34, ev35, ev36, ev37, ev38, ev39, ev40, ev41, ev42, ev43, ev44, ev45, ev46, ev47, ev48, ev49, ev50, ev51, ev52, ev53, ev54, ev55, ev56, ev57, ev58, ev59, ev60, ev61, ev62, ev63, ev64, ev65, ev66, ev67, ev68, ev69, ev70, ev71, ev72, ev73, ev74, ev75, ev76, ev77, ev78, ev79, ev80, ev81, ev82, ev83, ev84, ev85, ev86, ev87, ev88, ev89, ev90, ev91, ev92, ev93, ev94, ev95, ev96, ev97, ev98, ev99, ev100, ev101, ev102, ev103, ev104, ev105, ev106, ev107, ev108, ev109, ev110, ev111, ev112, ev113, ev114, ev115, ev116, ev117, ev118, ev119, ev120, ev121, ev122, ev123, ev124, ev125, ev126, ev127, ev128, ev129, ev130, ev131, ev132, ev133, ev134, ev135, ev136, ev137, ev138, ev139, ev140, ev141, ev142, ev143, ev144, ev145, ev146, ev147, ev148, ev149, ev150, ev151, ev152, ev153, ev154, ev155, ev156, ev157, ev158, ev159, ev160, ev161, ev162])
local macro_rules | `(tactic| walk_at "rq") => `(tactic| simp only [rSetU, rGetE, gGetE, rSetDef, gSetDef, rListVals, gInTx, rSlT, gSlT, rStarS, rListValsK, rLenSetI, rSortSetI, rSetOb, rGetOb, rMkX, rMkX0, rXv, rIsV, rIsVE, rPutOb, gSortDI, gSortLI, gAddO, gInKD, rDct0K, rSetK, rInK, rGetK, gGetK, gDictP, rBack, rRngB, gSum, rLam, rGive, rDeed, rRaise0, rForK, rStar, rDcT, rbPutT, gMaxP, rSlO, gSlO, rPar, rMinLen, gMinL, rInD, rSetT, rDct0T, rDct1T, rDc, rLcG, rbClause, rbEmit, rZip2, rZip3, rCallO, gLenD, gLenO, gMaxL, gSortL, gSortLO, rGetT, gGetT, gSortD, gSortDO, gKeysT, gKeysTO, rAsgL, gEqS, gInTN, rFld, rSetF, rMeth, rMake, rFrzI, rProp, rIsC, rRev, rAllK, rLcK, rLcKO, ew0, ew1, ew2, ew3, ew4, ew5, ew6, rRaise, rTry, xCls, enO, setO, rXf, rIsX, Option.elim_some, Option.elim_none, rSeq, rSet, rAsg, rRet, rRetN, rDrop, rIf, rSkip, rVar, rC, rOp, rUn, rTst, rTru, rNot, rAnd, rOr, rAndV, rOrV, rNotV, rIfE, rChain, rCons, rNil, rTup, rLst, rLstO, rCB, rLM, rSM, rSl, rPart, rNoPart, rAll, rRng1, rRng2, rFor, rCall, rAug, rSetIx, rLenSet, rFmt, rJoined, rJs, rLc, rLcO, rFrz, setAll, rYes, rNever, wipeN, nvs, enD, turnD, gNe, gLt, gLe, gGt, gGe, gIn, gNotIn, gIs, gIsNot, gMod, gFdiv, gPow, gAppend, gPop, gPopAt, gClear, gReverse, gExtend, gJoin, gSplit, nm_T, tp_T, at_0, at_1, at_2, at_3, at_4, at_5, at_6, at_7, ix_0, ix_1, ix_2, ix_3, ix_4, List.map_cons, List.map_nil, List.length_cons, List.length_nil, List.replicate, List.cons_append, List.nil_append, List.getElem?_cons_zero, List.getElem?_cons_succ, List.set_cons_zero, List.set_cons_succ, Option.some.injEq, exists_eq_left', exists_eq_left, exists_and_left, D.int.injEq, D.str.injEq, D.bl.injEq, D.ref.injEq, D.tup.injEq, D.lst.injEq, MO.lst.injEq, List.cons.injEq, and_true, true_and, if_true, if_false, Bool.false_eq_true, Nat.reduceSub, Nat.reduceAdd, reduceIte, reduceCtorEq, mset_same, mset_mset, Bool.not_true, Bool.not_false, imp_self, implies_true, not_false_eq_true, forall_const, ev0, ev1, ev2, ev3, ev4, ev5, ev6, ev7, ev8, ev9, ev10, ev11, ev12, ev13, ev14, ev15, ev16, ev17, ev18, ev19, ev20, ev21, ev22, ev23, ev24, ev25, ev26, ev27, ev28, ev29, ev30, ev31, ev32, ev33, ev34, ev35, ev36, ev37, ev38, ev39, ev40, ev41, ev42, ev43, ev44, ev45, ev46, ev47, ev48, ev49, ev50, ev51, ev52, ev53, ev54, ev55, ev56, ev57, ev58, ev59, ev60, ev61, ev62, ev63, ev64, ev65, ev66, ev67, ev68, ev69, ev70, ev71, ev72, ev73, ev74, ev75, ev76, ev77, ev78, ev79, ev80, ev81, ev82, ev83, ev84, ev85, ev86, ev87, ev88, ev89, ev90, ev91, ev92, ev93, ev94, ev95, ev96, ev97, ev98, ev99, ev100, ev101, ev102, ev103, ev104, ev105, ev106, ev107, ev108, ev109, ev110, ev111, ev112, ev113, ev114, ev115, ev116, ev117, ev118, ev119, ev120, ev121, ev122, ev123, ev124, ev125, ev126, ev127, ev128, ev129, ev130, ev131, ev132, ev133, ev134, ev135, ev136, ev137, ev138, ev139, ev140, ev141, ev142, ev143, ev144, ev145, ev146, ev147, ev148, ev149, ev150, ev151, ev152, ev153, ev154, ev155, ev156, ev157, ev158, ev159, ev160, ev161, ev162, Int.reduceEq, Int.reduceNe, Int.reduceLT, Int.reduceLE, Int.reduceNeg, decide_true, decide_false])
def N__law_bag : List Str := ["_law_script"]
def rd__law_bag : RS := rRet (rLstO (rCons (rCB gListA (rCons (rVar 0) (rNil))) (rCons (rC (.int 0)) (rCons (rC (.int 0)) (rCons (rC (.int 17)) (rCons (rC (.int 0)) (rNil)))))))

def N__law_draw : List Str := ["_law_bag_here", "_law_size", "_law_cell", "_law_digit", "_law_mixed_here"]
def rd__law_draw : RS := rSeq (rSetIx (rVar 0) (rC (.int 4)) (rOp gAdd (rOp gIx (rVar 0) (rC (.int 4))) (rC (.int 1))))
  (rSeq (rIf (rAnd (rTst (rOp gEq (rOp gIx (rVar 0) (rC (.int 2))) (rC (.int 0)))) (rTst (rOp gLt (rOp gIx (rVar 0) (rC (.int 1))) (rCB gLen (rCons (rOp gIx (rVar 0) (rC (.int 0))) (rNil)))))) (rSeq (rSet (rOp gIx (rOp gIx (rVar 0) (rC (.int 0))) (rOp gIx (rVar 0) (rC (.int 1)))) 2)
  (rSeq (rSetIx (rVar 0) (rC (.int 1)) (rOp gAdd (rOp gIx (rVar 0) (rC (.int 1))) (rC (.int 1))))
  (rSeq (rSetIx (rVar 0) (rC (.int 2)) (rOp gMul (rOp gAdd (rOp gMul (rC (.int 2)) (rCB gAbs (rCons (rVar 2) (rNil)))) (rCB gInt (rCons (rOp gLt (rVar 2) (rC (.int 0))) (rNil)))) (rCB gInt (rCons (rOp gGe (rCB gAbs (rCons (rVar 2) (rNil))) (rOp gPow (rC (.int 10)) (rC (.int 18)))) (rNil)))))
  (rSetIx (rVar 0) (rC (.int 3)) (rOp gMod (rCB gInt (rCons (rOp gAdd (rOp gAdd (rOp gMul (rOp gIx (rVar 0) (rC (.int 3))) (rC (.int 48271))) (rOp gMul (rVar 2) (rC (.int 69621)))) (rC (.int 11))) (rNil))) (rC (.int 2147483647))))))) (rSkip))
  (rSeq (rSet (rOp gMod (rCB gInt (rCons (rOp gIx (rVar 0) (rC (.int 2))) (rNil))) (rVar 1)) 3)
  (rSeq (rIf (rTst (rOp gGt (rOp gIx (rVar 0) (rC (.int 2))) (rC (.int 0)))) (rSeq (rSetIx (rVar 0) (rC (.int 2)) (rOp gFdiv (rOp gIx (rVar 0) (rC (.int 2))) (rVar 1)))
  (rRet (rVar 3))) (rSkip))
  (rSeq (rSet (rOp gMod (rCB gInt (rCons (rOp gAdd (rOp gIx (rVar 0) (rC (.int 3))) (rOp gMul (rOp gIx (rVar 0) (rC (.int 4))) (rC (.int 40692)))) (rNil))) (rC (.int 2147483647))) 4)
  (rSeq (rSet (rOp gMod (rCB gInt (rCons (rOp gAdd (rOp gAdd (rOp gPow (rVar 4) (rC (.int 3))) (rOp gMul (rOp gIx (rVar 0) (rC (.int 4))) (rC (.int 16807)))) (rC (.int 7))) (rNil))) (rC (.int 2147483629))) 4)
  (rRet (rOp gMod (rOp gFdiv (rOp gMod (rCB gInt (rCons (rOp gPow (rVar 4) (rC (.int 2))) (rNil))) (rC (.int 2147483587))) (rC (.int 8))) (rVar 1))))))))

/-- what a bag holds: the script, a place in it, a number to be used up, a seed, a count -/
def Bag (ds : List D) : Prop := ∃ (ns : List Int) (i big seed cnt : Int), ds = [.lst (ns.map D.int), .int i, .int big, .int seed, .int cnt] ∧ 0 ≤ i ∧ 0 ≤ big ∧ 0 ≤ seed
def sp__law_bag : SpD := fun ds m q _ => ∃ ns, ds = [.scr ns] ∧ ∀ b, m b = none → q (.ref b) (mset m b (.inv Bag))
theorem rl__law_bag : ∀ ds m q xf, sp__law_bag ds m q xf → ds.length = ["_law_script"].length := fun ds m q xf ⟨d, e, _⟩ => by rw [e]; rfl
theorem rp__law_bag : ∀ ds m q xf, sp__law_bag ds m q xf → rd__law_bag (xdD xf) (enD q) (nvs N__law_bag ds) m := by
  rintro ds m q xf ⟨ns, rfl, k⟩
  unfold rd__law_bag N__law_bag
  walk_at "rd"
  refine ⟨by decide, fun p hp => ⟨_, fun b z e => ?_, k p hp⟩⟩
  by_cases hb : b = p
  · subst hb
    rw [mset_same] at e ⊢
    cases e
    exact ⟨_, rfl, .inv ⟨ns, 0, 0, 17, 0, rfl, by omega, by omega, by omega⟩⟩
  · rw [mset_ne hb] at e ⊢
    exact ⟨z, e, .refl z⟩
def sp__law_draw : SpD := fun ds m q _ => ∃ b size, ds = [.ref b, .int size] ∧ m b = some (.inv Bag) ∧ 0 < size ∧ size < 1073741824 ∧ ∀ r : Int, 0 ≤ r → r < size → q (.int r) m
theorem rl__law_draw : ∀ ds m q xf, sp__law_draw ds m q xf → ds.length = ["_law_bag_here", "_law_size"].length := fun ds m q xf ⟨b, s, e, _⟩ => by rw [e]; rfl
theorem atI_of {α : Type} {xs : List α} {i : Int} (h0 : 0 ≤ i) (h1 : i < xs.length) : atI xs i = some (xs[i.toNat]'(by omega)) := by
  unfold atI ixN
  rw [if_pos h0, if_pos h1]
  show xs[i.toNat]? = _
  rw [List.getElem?_eq_getElem]
theorem bag_back {m : Mem} {b : Addr} {ds : List D} (hb : m b = some (.inv Bag)) (h : Bag ds) : Sub m (mset m b (.lst ds)) := Sub.set (Sub.refl m) hb (.inv h)
theorem cmul_r {i j : Int} (h1 : -(2 ^ 64) < j) (h2 : j < 2 ^ 64) : CMul i j := .inr ⟨h1, h2⟩
theorem cmul_l {i j : Int} (h1 : -(2 ^ 64) < i) (h2 : i < 2 ^ 64) : CMul i j := .inl ⟨h1, h2⟩
theorem cpow_mod {x n k : Int} (h : 0 < n) (hn : n < 2 ^ 62) (h0 : 0 ≤ k) (h1 : k ≤ 1000000) : CPow (x % n) k := by
  have e1 := Int.emod_nonneg x (show n ≠ 0 by omega)
  have e2 := Int.emod_lt_of_pos x h
  exact ⟨h0, h1, by omega⟩
/-- the last part of a draw -/
theorem draw_tail {m : Mem} {q : QD} {b : Addr} {size : Int} {ns : List Int} {i big seed cnt : Int} (hb : m b = some (.inv Bag)) (h0 : 0 < size) (h1 : size < 1073741824) (k : ∀ (r : Int), 0 ≤ r → r < size → q (.int r) m) (hi : 0 ≤ i) (hbig : 0 ≤ big) (hseed : 0 ≤ seed) :
    0 < size ∧
      if decide (0 < big) = true then
        CDiv big size ∧ rtD q (D.int (big % size)) (mset m b (MO.lst [D.lst (List.map D.int ns), D.int i, D.int (big / size), D.int seed, D.int (cnt + 1)]))
      else
        CMul (cnt + 1) 40692 ∧ (0 : Int) < 2147483647 ∧ CPow ((seed + (cnt + 1) * 40692) % 2147483647) 3 ∧ CMul (cnt + 1) 16807 ∧ (0 : Int) < 2147483629 ∧
          CPow ((((seed + (cnt + 1) * 40692) % 2147483647) ^ Int.toNat 3 + (cnt + 1) * 16807 + 7) % 2147483629) 2 ∧ (0 : Int) < 2147483587 ∧
            CDiv (((((seed + (cnt + 1) * 40692) % 2147483647) ^ Int.toNat 3 + (cnt + 1) * 16807 + 7) % 2147483629) ^ Int.toNat 2 % 2147483587) 8 ∧ 0 < size ∧
              rtD q (D.int (((((seed + (cnt + 1) * 40692) % 2147483647) ^ Int.toNat 3 + (cnt + 1) * 16807 + 7) % 2147483629) ^ Int.toNat 2 % 2147483587 / 8 % size))
                (mset m b (MO.lst [D.lst (List.map D.int ns), D.int i, D.int big, D.int seed, D.int (cnt + 1)])) := by
  refine ⟨h0, ite2 (fun h => ⟨⟨h0, h1⟩, rt_sub (bag_back hb ⟨ns, i, big / size, seed, cnt + 1, rfl, hi, Int.ediv_nonneg hbig (by omega), hseed⟩) (k _ (Int.emod_nonneg _ (by omega)) (Int.emod_lt_of_pos _ h0))⟩) fun h => ?_⟩
  refine ⟨cmul_r (by decide) (by decide), by decide, cpow_mod (by decide) (by decide) (by decide) (by decide), cmul_r (by decide) (by decide), by decide, cpow_mod (by decide) (by decide) (by decide) (by decide), by decide, ⟨by decide, by decide⟩, h0, ?_⟩
  exact rt_sub (bag_back hb ⟨ns, i, big, seed, cnt + 1, rfl, hi, hbig, hseed⟩) (k _ (Int.emod_nonneg _ (by omega)) (Int.emod_lt_of_pos _ h0))
theorem rp__law_draw : ∀ ds m q xf, sp__law_draw ds m q xf → opn m fun m' => rd__law_draw (xdD xf) (enD q) (nvs N__law_draw ds) m' := by
  rintro ds m q xf ⟨b, size, rfl, hb, h0, h1, k⟩
  refine ⟨b, Bag, hb, ?_⟩
  rintro ds ⟨ns, i, big, seed, cnt, rfl, hi, hbig, hseed⟩
  unfold rd__law_draw N__law_draw
  walk_at "rd"
  refine ite2 (fun _ => ite2 (fun h => ?_) fun _ => draw_tail hb h0 h1 k hi hbig hseed) fun _ => draw_tail hb h0 h1 k hi hbig hseed
  have hlt : i < ((ns.map D.int).length : Int) := of_decide_eq_true h
  rw [atI_of hi hlt]
  have e : (ns.map D.int)[i.toNat]'(by omega) = .int (ns[i.toNat]'(by simpa using (show i.toNat < (ns.map D.int).length by omega))) := by simp
  rw [e]
  generalize (ns[i.toNat]'_) = cell
  walk_at "rd"
  refine ⟨cmul_l (by decide) (by decide), ⟨by decide, by decide, by decide⟩, ?_, cmul_r (by decide) (by decide), cmul_r (by decide) (by decide), by decide, ?_⟩
  · refine cmul_r ?_ ?_ <;> (repeat' split) <;> decide
  · refine draw_tail hb h0 h1 k (by omega) ?_ (Int.emod_nonneg _ (by decide))
    refine Int.mul_nonneg ?_ ?_
    · (repeat' split) <;> omega
    · (repeat' split) <;> decide
end DL

namespace DL
open PySem PySem.Spec PyProof.Rows L2
/-! a drawn order -/
local macro_rules | `(tactic| walk_at "rd") => `(tactic| simp only [rSetU, rGetE, gGetE, rSetDef, gSetDef, rListVals, gInTx, rSlT, gSlT, rStarS, rListValsK, rLenSetI, rSortSetI, rSetOb, rGetOb, rMkX, rMkX0, rXv, rIsV, rIsVE, rPutOb, gSortDI, gSortLI, gAddO, gInKD, rDct0K, rSetK, rInK, rGetK, gGetK, gDictP, rBack, rRngB, gSum, rLam, rGive, rDeed, rRaise0, rForK, rStar, rDcT, rbPutT, gMaxP, rSlO, gSlO, rPar, rMinLen, gMinL, rInD, rSetT, rDct0T, rDct1T, rDc, rLcG, rbClause, rbEmit, rZip2, rZip3, rCallO, gLenD, gLenO, gMaxL, gSortL, gSortLO, rGetT, gGetT, gSortD, gSortDO, gKeysT, gKeysTO, rAsgL, gEqS, gInTN, rFld, rSetF, rMeth, rMake, rFrzI, rProp, rIsC, rRev, rAllK, rLcK, rLcKO, ew0, ew1, ew2, ew3, ew4, ew5, ew6, rRaise, rTry, xCls, enO, setO, rXf, rIsX, Option.elim_some, Option.elim_none, rSeq, rSet, rAsg, rRet, rRetN, rDrop, rIf, rSkip, rVar, rC, rOp, rUn, rTst, rTru, rNot, rAnd, rOr, rAndV, rOrV, rNotV, rIfE, rChain, rCons, rNil, rTup, rLst, rLstO, rCB, rLM, rSM, rSl, rPart, rNoPart, rAll, rRng1, rRng2, rFor, rCall, rAug, rSetIx, rLenSet, rFmt, rJoined, rJs, rLc, rLcO, rFrz, setAll, rYes, rNever, wipeN, nvs, enD, turnD, gNe, gLt, gLe, gGt, gGe, gIn, gNotIn, gIs, gIsNot, gMod, gFdiv, gPow, gAppend, gPop, gPopAt, gClear, gReverse, gExtend, gJoin, gSplit, nm_T, tp_T, at_0, at_1, at_2, at_3, at_4, at_5, at_6, at_7, ix_0, ix_1, ix_2, ix_3, ix_4, List.map_cons, List.map_nil, List.length_cons, List.length_nil, List.replicate, List.cons_append, List.nil_append, List.getElem?_cons_zero, List.getElem?_cons_succ, List.set_cons_zero, List.set_cons_succ, Option.some.injEq, exists_eq_left', exists_eq_left, exists_and_left, D.int.injEq, D.str.injEq, D.bl.injEq, D.ref.injEq, D.tup.injEq, D.lst.injEq, MO.lst.injEq, List.cons.injEq, and_true, true_and, if_true, if_false, Bool.false_eq_true, Nat.reduceSub, Nat.reduceAdd, reduceIte, reduceCtorEq, mset_same, mset_mset, Bool.not_true, Bool.not_false, imp_self, implies_true, not_false_eq_true, forall_const, ev0, ev1, ev2, ev3, ev4, ev5, ev6, ev7, ev8, ev9, ev10, ev11, ev12, ev13, ev14, ev15, ev16, ev17, ev18, ev19, ev20, ev21, ev22, ev23, ev24, ev25, ev26, ev27, ev28, ev29, ev30, ev31, ev32, ev33, ev34, ev35, ev36, ev37, ev38, ev39, ev40, ev41, ev42, ev43, ev44, ev45, ev46, ev47, ev48, ev49, ev50, ev51, ev52, ev53, ev54, ev55, ev56, ev57, ev58, ev59, ev60, ev61, ev62, ev63, ev64, ev65, ev66, ev67, ev68, ev69, ev70, ev71, ev72, ev73, ev74, ev75, ev76, ev77, ev78, ev79, ev80, ev81, ev82, ev83, ev84, ev85, ev86, ev87, ev88, ev89, ev90, ev91, ev92, ev93, ev94, ev95, ev96, ev97, ev98, ev99, ev100, ev101, ev102, ev103, ev104, ev105, ev106, ev107, ev108, ev109, ev110, ev111, ev112, ev113, ev114, ev115, ev116, ev117, ev118, ev119, ev120, ev121, ev122, ev123, ev124, ev125, ev126, ev127, ev128, ev129, ev130, ev131, ev132, ev133, ev134, ev135, ev136, ev137, ev138, ev139, ev140, ev141, ev142, ev143, ev144, ev145, ev146, ev147, ev148, ev149, ev150, ev151, ev152, ev153, ev154, ev155, ev156, ev157, ev158, ev159, ev160, ev161, ev162])
local macro_rules | `(tactic| walk_at "rq") => `(tactic| simp only [rSetU, rGetE, gGetE, rSetDef, gSetDef, rListVals, gInTx, rSlT, gSlT, rStarS, rListValsK, rLenSetI, rSortSetI, rSetOb, rGetOb, rMkX, rMkX0, rXv, rIsV, rIsVE, rPutOb, gSortDI, gSortLI, gAddO, gInKD, rDct0K, rSetK, rInK, rGetK, gGetK, gDictP, rBack, rRngB, gSum, rLam, rGive, rDeed, rRaise0, rForK, rStar, rDcT, rbPutT, gMaxP, rSlO, gSlO, rPar, rMinLen, gMinL, rInD, rSetT, rDct0T, rDct1T, rDc, rLcG, rbClause, rbEmit, rZip2, rZip3, rCallO, gLenD, gLenO, gMaxL, gSortL, gSortLO, rGetT, gGetT, gSortD, gSortDO, gKeysT, gKeysTO, rAsgL, gEqS, gInTN, rFld, rSetF, rMeth, rMake, rFrzI, rProp, rIsC, rRev, rAllK, rLcK, rLcKO, ew0, ew1, ew2, ew3, ew4, ew5, ew6, rRaise, rTry, xCls, enO, setO, rXf, rIsX, Option.elim_some, Option.elim_none, rSeq, rSet, rAsg, rRet, rRetN, rDrop, rIf, rSkip, rVar, rC, rOp, rUn, rTst, rTru, rNot, rAnd, rOr, rAndV, rOrV, rNotV, rIfE, rChain, rCons, rNil, rTup, rLst, rLstO, rCB, rLM, rSM, rSl, rPart, rNoPart, rAll, rRng1, rRng2, rFor, rCall, rAug, rSetIx, rLenSet, rFmt, rJoined, rJs, rLc, rLcO, rFrz, setAll, rYes, rNever, wipeN, nvs, enD, turnD, gNe, gLt, gLe, gGt, gGe, gIn, gNotIn, gIs, gIsNot, gMod, gFdiv, gPow, gAppend, gPop, gPopAt, gClear, gReverse, gExtend, gJoin, gSplit, nm_T, tp_T, at_0, at_1, at_2, at_3, at_4, at_5, at_6, at_7, ix_0, ix_1, ix_2, ix_3, ix_4, List.map_cons, List.map_nil, List.length_cons, List.length_nil, List.replicate, List.cons_append, List.nil_append, List.getElem?_cons_zero, List.getElem?_cons_succ, List.set_cons_zero, List.set_cons_succ, Option.some.injEq, exists_eq_left', exists_eq_left, exists_and_left, D.int.injEq, D.str.injEq, D.bl.injEq, D.ref.injEq, D.tup.injEq, D.lst.injEq, MO.lst.injEq, List.cons.injEq, and_true, true_and, if_true, if_false, Bool.false_eq_true, Nat.reduceSub, Nat.reduceAdd, reduceIte, reduceCtorEq, mset_same, mset_mset, Bool.not_true, Bool.not_false, imp_self, implies_true, not_false_eq_true, forall_const, ev0, ev1, ev2, ev3, ev4, ev5, ev6, ev7, ev8, ev9, ev10, ev11, ev12, ev13, ev14, ev15, ev16, ev17, ev18, ev19, ev20, ev21, ev22, ev23, ev24, ev25, ev26, ev27, ev28, ev29, ev30, ev31, ev32, ev33, ev34, ev35, ev36, ev37, ev38, ev39, ev40, ev41, ev42, ev43, ev44, ev45, ev46, ev47, ev48, ev49, ev50, ev51, ev52, ev53, ev54, ev55, ev56, ev57, ev58, ev59, ev60, ev61, ev62, ev63, ev64, ev65, ev66, ev67, ev68, ev69, ev70, ev71, ev72, ev73, ev74, ev75, ev76, ev77, ev78, ev79, ev80, ev81, ev82, ev83, ev84, ev85, ev86, ev87, ev88, ev89, ev90, ev91, ev92, ev93, ev94, ev95, ev96, ev97, ev98, ev99, ev100, ev101, ev102, ev103, ev104, ev105, ev106, ev107, ev108, ev109, ev110, ev111, ev112, ev113, ev114, ev115, ev116, ev117, ev118, ev119, ev120, ev121, ev122, ev123, ev124, ev125, ev126, ev127, ev128, ev129, ev130, ev131, ev132, ev133, ev134, ev135, ev136, ev137, ev138, ev139, ev140, ev141, ev142, ev143, ev144, ev145, ev146, ev147, ev148, ev149, ev150, ev151, ev152, ev153, ev154, ev155, ev156, ev157, ev158, ev159, ev160, ev161, ev162, Int.reduceEq, Int.reduceNe, Int.reduceLT, Int.reduceLE, Int.reduceNeg, decide_true, decide_false])
def N__law_mixed : List Str := ["_law_bag_here", "_law_items", "_law_left", "_law_found", "_law_k"]
def rd__law_mixed : RS := rSeq (rSet (rCB gListAO (rCons (rVar 1) (rNil))) 2)
  (rSeq (rSet (rLstO (rNil)) 3)
  (rSeq (rFor (rRng1 (rCons (rCB gLen (rCons (rVar 1) (rNil))) (rNil))) (.nm 4) (rDrop (rLM gAppend (rVar 3) (rCons (rLM gPopAt (rVar 2) (rCons (rCall sp__law_draw (rCons (rVar 0) (rCons (rCB gLen (rCons (rVar 2) (rNil))) (rNil)))) (rNil))) (rNil)))))
  (rRet (rVar 3))))

def sp__law_mixed : SpD := fun ds m q _ => ∃ b items, ds = [.ref b, .lst items] ∧ m b = some (.inv Bag) ∧ items.length < 1000000 ∧ ∀ ys : List D, ys.Perm items → ∀ p, m p = none → q (.ref p) (mset m p (.lst ys))
theorem rl__law_mixed : ∀ ds m q xf, sp__law_mixed ds m q xf → ds.length = ["_law_bag_here", "_law_items"].length := fun ds m q xf ⟨b, s, e, _⟩ => by rw [e]; rfl
theorem mset_none {m : Mem} {a b : Addr} {o : MO} (h : mset m a o b = none) : m b = none ∧ b ≠ a := by
  by_cases e : b = a
  · subst e
    rw [mset_same] at h
    cases h
  · rw [mset_ne e] at h
    exact ⟨h, e⟩
theorem mset_over {m : Mem} {a b : Addr} {x y x' y' : MO} (h : b ≠ a) : mset (mset (mset (mset m a x) b y) a x') b y' = mset (mset m a x') b y' := by
  rw [mset_comm (Ne.symm h) (m := m), mset_mset, mset_comm h, mset_mset]
theorem seqIndex_of {i : Int} {n : Nat} (h0 : 0 ≤ i) (h1 : i < n) : seqIndex? i n = some i.toNat := PySem.StrLaws.seqIndex_nonneg h0 h1
theorem perm_draw {l : List D} {i : Nat} {x : D} (h : l[i]? = some x) : (x :: l.eraseIdx i).Perm l := by
  induction l generalizing i with
  | nil => simp at h
  | cons a l ih =>
    cases i with
    | zero =>
      simp at h
      subst h
      exact .refl _
    | succ i =>
      simp at h
      rw [List.eraseIdx_cons_succ]
      exact (List.Perm.swap a x _).trans ((ih h).cons a)
theorem rngD_length (lo : Int) (n : Nat) : (rngD lo n).length = n := by simp [rngD]
theorem rp__law_mixed : ∀ ds m q xf, sp__law_mixed ds m q xf → rd__law_mixed (xdD xf) (enD q) (nvs N__law_mixed ds) m := by
  rintro ds m q xf ⟨b, items, rfl, hb, hl, k⟩
  unfold rd__law_mixed N__law_mixed
  walk_at "rd"
  intro L hL
  refine ⟨by decide, fun F hF => ⟨by omega, by omega, ?_⟩⟩
  have hbL : b ≠ L := mne hb hL
  obtain ⟨hmF, hFL⟩ := mset_none hF
  have hbF : b ≠ F := mne hb hmF
  have hsz : sizeLine = 16777216 := sizeLine_eq
  refine for_step (fun xs n m' => ∃ left found y, n = [some (.ref b), some (.lst items), some (.ref L), some (.ref F), y] ∧ m' = mset (mset m L (.lst left)) F (.lst found) ∧ left.length = xs.length ∧ (found ++ left).Perm items) ?_ ?_ _ _ _ ⟨items, [], none, rfl, rfl, ?_, .refl _⟩
  · rintro n m' ⟨left, found, y, rfl, rfl, hl0, hp⟩
    walk_at "rd"
    have e : left = [] := List.length_eq_zero_iff.mp hl0
    subst e
    rw [List.append_nil] at hp
    exact rt_sub ((Sub.refl m).add hL).both (k found hp F hmF)
  · rintro x xs n m' ⟨left, found, y, rfl, rfl, hl0, hp⟩ kk hk
    walk_at "rd"
    have eL : mset (mset m L (.lst left)) F (.lst found) L = some (.lst left) := by rw [mset_ne (Ne.symm hFL), mset_same]
    rw [eL]
    walk_at "rd"
    rw [List.length_cons] at hl0
    have hle := hp.length_eq
    rw [List.length_append] at hle
    refine ⟨⟨_, rfl⟩, ⟨_, rfl⟩, b, left.length, rfl, by rw [mset_ne hbF, mset_ne hbL]; exact hb, by omega, by omega, fun r h0 h1 => ?_⟩
    have hr : r.toNat < left.length := by omega
    refine ⟨left, r, rfl, eL, by omega, by omega, r.toNat, seqIndex_of h0 h1, left[r.toNat], List.getElem?_eq_getElem hr, found, by rw [mset_ne hFL, mset_same], by omega, ?_⟩
    rw [mset_over hFL]
    refine hk _ _ ⟨_, _, _, rfl, rfl, ?_, ?_⟩
    · rw [List.length_eraseIdx_of_lt hr]
      omega
    · refine List.Perm.trans ?_ hp
      rw [List.append_assoc]
      exact (perm_draw (List.getElem?_eq_getElem hr)).append_left found
  · rw [rngD_length]
    omega
end DL

namespace DL
open PySem PySem.Spec PyProof.Rows L2
/-! the defs of units -/
local macro_rules | `(tactic| walk_at "rd") => `(tactic| simp only [rSetU, rGetE, gGetE, rSetDef, gSetDef, rListVals, gInTx, rSlT, gSlT, rStarS, rListValsK, rLenSetI, rSortSetI, rSetOb, rGetOb, rMkX, rMkX0, rXv, rIsV, rIsVE, rPutOb, gSortDI, gSortLI, gAddO, gInKD, rDct0K, rSetK, rInK, rGetK, gGetK, gDictP, rBack, rRngB, gSum, rLam, rGive, rDeed, rRaise0, rForK, rStar, rDcT, rbPutT, gMaxP, rSlO, gSlO, rPar, rMinLen, gMinL, rInD, rSetT, rDct0T, rDct1T, rDc, rLcG, rbClause, rbEmit, rZip2, rZip3, rCallO, gLenD, gLenO, gMaxL, gSortL, gSortLO, rGetT, gGetT, gSortD, gSortDO, gKeysT, gKeysTO, rAsgL, gEqS, gInTN, rFld, rSetF, rMeth, rMake, rFrzI, rProp, rIsC, rRev, rAllK, rLcK, rLcKO, ew0, ew1, ew2, ew3, ew4, ew5, ew6, rRaise, rTry, xCls, enO, setO, rXf, rIsX, Option.elim_some, Option.elim_none, rSeq, rSet, rAsg, rRet, rRetN, rDrop, rIf, rSkip, rVar, rC, rOp, rUn, rTst, rTru, rNot, rAnd, rOr, rAndV, rOrV, rNotV, rIfE, rChain, rCons, rNil, rTup, rLst, rLstO, rCB, rLM, rSM, rSl, rPart, rNoPart, rAll, rRng1, rRng2, rFor, rCall, rAug, rSetIx, rLenSet, rFmt, rJoined, rJs, rLc, rLcO, rFrz, setAll, rYes, rNever, wipeN, nvs, enD, turnD, gNe, gLt, gLe, gGt, gGe, gIn, gNotIn, gIs, gIsNot, gMod, gFdiv, gPow, gAppend, gPop, gPopAt, gClear, gReverse, gExtend, gJoin, gSplit, nm_T, tp_T, at_0, at_1, at_2, at_3, at_4, at_5, at_6, at_7, ix_0, ix_1, ix_2, ix_3, ix_4, List.map_cons, List.map_nil, List.length_cons, List.length_nil, List.replicate, List.cons_append, List.nil_append, List.getElem?_cons_zero, List.getElem?_cons_succ, List.set_cons_zero, List.set_cons_succ, Option.some.injEq, exists_eq_left', exists_eq_left, exists_and_left, D.int.injEq, D.str.injEq, D.bl.injEq, D.ref.injEq, D.tup.injEq, D.lst.injEq, MO.lst.injEq, List.cons.injEq, and_true, true_and, if_true, if_false, Bool.false_eq_true, Nat.reduceSub, Nat.reduceAdd, reduceIte, reduceCtorEq, mset_same, mset_mset, Bool.not_true, Bool.not_false, imp_self, implies_true, not_false_eq_true, forall_const, ev0, ev1, ev2, ev3, ev4, ev5, ev6, ev7, ev8, ev9, ev10, ev11, ev12, ev13, ev14, ev15, ev16, ev17, ev18, ev19, ev20, ev21, ev22, ev23, ev24, ev25, ev26, ev27, ev28, ev29, ev30, ev31, ev32, ev33, ev34, ev35, ev36, ev37, ev38, ev39, ev40, ev41, ev42, ev43, ev44, ev45, ev46, ev47, ev48, ev49, ev50, ev51, ev52, ev53, ev54, ev55, ev56, ev57, ev58, ev59, ev60, ev61, ev62, ev63, ev64, ev65, ev66, ev67, ev68, ev69, ev70, ev71, ev72, ev73, ev74, ev75, ev76, ev77, ev78, ev79, ev80, ev81, ev82, ev83, ev84, ev85, ev86, ev87, ev88, ev89, ev90, ev91, ev92, ev93, ev94, ev95, ev96, ev97, ev98, ev99, ev100, ev101, ev102, ev103, ev104, ev105, ev106, ev107, ev108, ev109, ev110, ev111, ev112, ev113, ev114, ev115, ev116, ev117, ev118, ev119, ev120, ev121, ev122, ev123, ev124, ev125, ev126, ev127, ev128, ev129, ev130, ev131, ev132, ev133, ev134, ev135, ev136, ev137, ev138, ev139, ev140, ev141, ev142, ev143, ev144, ev145, ev146, ev147, ev148, ev149, ev150, ev151, ev152, ev153, ev154, ev155, ev156, ev157, ev158, ev159, ev160, ev161, ev162])
local macro_rules | `(tactic| walk_at "rq") => `(tactic| simp only [rSetU, rGetE, gGetE, rSetDef, gSetDef, rListVals, gInTx, rSlT, gSlT, rStarS, rListValsK, rLenSetI, rSortSetI, rSetOb, rGetOb, rMkX, rMkX0, rXv, rIsV, rIsVE, rPutOb, gSortDI, gSortLI, gAddO, gInKD, rDct0K, rSetK, rInK, rGetK, gGetK, gDictP, rBack, rRngB, gSum, rLam, rGive, rDeed, rRaise0, rForK, rStar, rDcT, rbPutT, gMaxP, rSlO, gSlO, rPar, rMinLen, gMinL, rInD, rSetT, rDct0T, rDct1T, rDc, rLcG, rbClause, rbEmit, rZip2, rZip3, rCallO, gLenD, gLenO, gMaxL, gSortL, gSortLO, rGetT, gGetT, gSortD, gSortDO, gKeysT, gKeysTO, rAsgL, gEqS, gInTN, rFld, rSetF, rMeth, rMake, rFrzI, rProp, rIsC, rRev, rAllK, rLcK, rLcKO, ew0, ew1, ew2, ew3, ew4, ew5, ew6, rRaise, rTry, xCls, enO, setO, rXf, rIsX, Option.elim_some, Option.elim_none, rSeq, rSet, rAsg, rRet, rRetN, rDrop, rIf, rSkip, rVar, rC, rOp, rUn, rTst, rTru, rNot, rAnd, rOr, rAndV, rOrV, rNotV, rIfE, rChain, rCons, rNil, rTup, rLst, rLstO, rCB, rLM, rSM, rSl, rPart, rNoPart, rAll, rRng1, rRng2, rFor, rCall, rAug, rSetIx, rLenSet, rFmt, rJoined, rJs, rLc, rLcO, rFrz, setAll, rYes, rNever, wipeN, nvs, enD, turnD, gNe, gLt, gLe, gGt, gGe, gIn, gNotIn, gIs, gIsNot, gMod, gFdiv, gPow, gAppend, gPop, gPopAt, gClear, gReverse, gExtend, gJoin, gSplit, nm_T, tp_T, at_0, at_1, at_2, at_3, at_4, at_5, at_6, at_7, ix_0, ix_1, ix_2, ix_3, ix_4, List.map_cons, List.map_nil, List.length_cons, List.length_nil, List.replicate, List.cons_append, List.nil_append, List.getElem?_cons_zero, List.getElem?_cons_succ, List.set_cons_zero, List.set_cons_succ, Option.some.injEq, exists_eq_left', exists_eq_left, exists_and_left, D.int.injEq, D.str.injEq, D.bl.injEq, D.ref.injEq, D.tup.injEq, D.lst.injEq, MO.lst.injEq, List.cons.injEq, and_true, true_and, if_true, if_false, Bool.false_eq_true, Nat.reduceSub, Nat.reduceAdd, reduceIte, reduceCtorEq, mset_same, mset_mset, Bool.not_true, Bool.not_false, imp_self, implies_true, not_false_eq_true, forall_const, ev0, ev1, ev2, ev3, ev4, ev5, ev6, ev7, ev8, ev9, ev10, ev11, ev12, ev13, ev14, ev15, ev16, ev17, ev18, ev19, ev20, ev21, ev22, ev23, ev24, ev25, ev26, ev27, ev28, ev29, ev30, ev31, ev32, ev33, ev34, ev35, ev36, ev37, ev38, ev39, ev40, ev41, ev42, ev43, ev44, ev45, ev46, ev47, ev48, ev49, ev50, ev51, ev52, ev53, ev54, ev55, ev56, ev57, ev58, ev59, ev60, ev61, ev62, ev63, ev64, ev65, ev66, ev67, ev68, ev69, ev70, ev71, ev72, ev73, ev74, ev75, ev76, ev77, ev78, ev79, ev80, ev81, ev82, ev83, ev84, ev85, ev86, ev87, ev88, ev89, ev90, ev91, ev92, ev93, ev94, ev95, ev96, ev97, ev98, ev99, ev100, ev101, ev102, ev103, ev104, ev105, ev106, ev107, ev108, ev109, ev110, ev111, ev112, ev113, ev114, ev115, ev116, ev117, ev118, ev119, ev120, ev121, ev122, ev123, ev124, ev125, ev126, ev127, ev128, ev129, ev130, ev131, ev132, ev133, ev134, ev135, ev136, ev137, ev138, ev139, ev140, ev141, ev142, ev143, ev144, ev145, ev146, ev147, ev148, ev149, ev150, ev151, ev152, ev153, ev154, ev155, ev156, ev157, ev158, ev159, ev160, ev161, ev162, Int.reduceEq, Int.reduceNe, Int.reduceLT, Int.reduceLE, Int.reduceNeg, decide_true, decide_false])
def N_is_row : List Str := ["value", "unit"]
def rd_is_row : RS := rSeq (rIf (rOr (rNot (rTst (rCB gIsi (rCons (rVar 0) (rCons (rC (.ty "str")) (rNil)))))) (rTst (rOp gGt (rCB gLen (rCons (rVar 0) (rNil))) (rC (.int 2000))))) (rRet (rC (.bl false))) (rSkip))
  (rRet (rCB gAll (rCons (rLc (rAll (rVar 0)) (.nm 1) (rYes) (rOp gIn (rVar 1) (rC (.str [100, 119, 97, 114]))) [1]) (rNil))))

/-- a row, by its signs -/
def isL (c : Nat) : Bool := decide (c ∈ [100, 119, 97, 114])
def isRowC (cs : List Nat) : Bool := decide (cs.length ≤ 2000) && cs.all isL
def isRowD : D → Bool
  | .str cs => isRowC cs
  | _ => false
/-- any value that may be asked of -/
def Anyv (d : D) (m : Mem) : Prop := (∃ a, tyD d m = some a) ∧ ∀ cs, d = .str cs → cs.length ≤ sizeLine
def sp_is_row : SpD := fun ds m q _ => ∃ d, ds = [d] ∧ Anyv d m ∧ q (.bl (isRowD d)) m
theorem rl_is_row : ∀ ds m q xf, sp_is_row ds m q xf → ds.length = ["value"].length := fun ds m q xf ⟨d, e, _⟩ => by rw [e]; rfl
/-- a list of what is told of each sign of a text -/
def onC (g : Nat → D) : D → Option D
  | .str [c] => some (g c)
  | _ => none
theorem chars_filterMap (g : Nat → D) (cs : List Nat) : (chars cs).filterMap (onC g) = cs.map g := by
  unfold chars
  rw [List.filterMap_map]
  rw [← List.filterMap_eq_map]
  rfl
theorem mem_chars {d : D} {cs : List Nat} (h : d ∈ chars cs) : ∃ c, c ∈ cs ∧ d = .str [c] := by
  unfold chars at h
  obtain ⟨c, h1, h2⟩ := List.mem_map.mp h
  exact ⟨c, h1, h2.symm⟩
theorem chars_length (cs : List Nat) : (chars cs).length = cs.length := by simp [chars]
theorem isTy_other {a : String} (h : a ≠ "str") : isTy a "str" = false := by
  unfold isTy
  simp [h]
theorem ty_str {d : D} {m : Mem} (h : tyD d m = some "str") : ∃ cs, d = .str cs := by
  cases d with
  | str cs => exact ⟨cs, rfl⟩
  | non => simp [tyD] at h
  | bl _ => simp [tyD] at h
  | int _ => simp [tyD] at h
  | tup _ => simp [tyD] at h
  | dct t k =>
    cases t <;> simp [tyD] at h
  | _ =>
    simp only [tyD] at h
    generalize lstOf _ m = o at h
    cases o <;> simp [tyL] at h
theorem rp_is_row : ∀ ds m q xf, sp_is_row ds m q xf → rd_is_row (xdD xf) (enD q) (nvs N_is_row ds) m := by
  rintro ds m q xf ⟨d, rfl, ⟨⟨a, ha⟩, hz⟩, k⟩
  unfold rd_is_row N_is_row
  by_cases h1 : a = "str"
  · subst h1
    obtain ⟨cs, rfl⟩ := ty_str ha
    have hz := hz cs rfl
    walk_at "rd"
    refine ⟨by decide, ?_⟩
    simp only [show isTy "str" "str" = true by decide, Bool.not_true, Bool.false_eq_true, if_false]
    refine ⟨hz, ?_⟩
    by_cases h2 : cs.length ≤ 2000
    · rw [if_neg (by simp; omega)]
      refine comp_go (onC fun c => .bl (isL c)) (by rw [chars_length]; omega) (fun P hP x hx acc hl kk hk => ?_) fun P hP => ?_
      · obtain ⟨c, _, rfl⟩ := mem_chars hx
        walk_at "rd"
        exact ⟨hl, hk⟩
      · rw [chars_filterMap, mdel_mset hP]
        refine ⟨_, mset_same, cs.map isL, ?_, rt_same ?_⟩
        · have := bls_map (cs.map isL)
          rw [List.map_map] at this
          exact this
        · have e : isRowD (.str cs) = (cs.map isL).all id := by
            show isRowC cs = _
            unfold isRowC
            rw [decide_eq_true h2, List.all_map]
            rfl
          rw [e] at k
          exact k
    · rw [if_pos (by simp; omega)]
      have e : isRowD (.str cs) = false := by
        show isRowC cs = _
        unfold isRowC
        rw [decide_eq_false h2]
        rfl
      rw [e] at k
      exact rt_same k
  · have e : isRowD d = false := by
      cases d with
      | str cs => exact absurd (Option.some.inj (ha.symm.trans (rfl : tyD (.str cs) m = some "str"))) h1
      | _ => rfl
    walk_at "rd"
    refine ⟨a, ha, by decide, ?_⟩
    rw [isTy_other h1]
    rw [e] at k
    exact rt_same k
def N_is_kinds : List Str := ["value"]
def rd_is_kinds : RS := rRet (rAndV (rCall sp_is_row (rCons (rVar 0) (rNil))) (rAndV (rChain gLe gLe (rC (.int 1)) (rCB gLen (rCons (rVar 0) (rNil))) (rCB gLen (rCons (rC (.str [100, 119, 97, 114])) (rNil)))) (rOp gEq (rLenSet (rVar 0)) (rCB gLen (rCons (rVar 0) (rNil))))))

/-- kinds -/
def isKindsC (cs : List Nat) : Bool := isRowC cs && decide (1 ≤ cs.length) && decide (cs.length ≤ 4) && decide (cs.Nodup)
def isKindsD : D → Bool
  | .str cs => isKindsC cs
  | _ => false
def sp_is_kinds : SpD := fun ds m q _ => ∃ d, ds = [d] ∧ Anyv d m ∧ q (.bl (isKindsD d)) m
theorem rl_is_kinds : ∀ ds m q xf, sp_is_kinds ds m q xf → ds.length = ["value"].length := fun ds m q xf ⟨d, e, _⟩ => by rw [e]; rfl
theorem rp_is_kinds : ∀ ds m q xf, sp_is_kinds ds m q xf → rd_is_kinds (xdD xf) (enD q) (nvs N_is_kinds ds) m := by
  rintro ds m q xf ⟨d, rfl, ha, k⟩
  unfold rd_is_kinds N_is_kinds
  walk_at "rd"
  refine ⟨d, rfl, ha, ?_⟩
  refine ⟨_, rfl, ite2 (fun h => ?_) fun h => ?_⟩
  · cases d with
    | str cs =>
      have h : isRowC cs = true := h
      have h2 : cs.length ≤ 2000 := by
        unfold isRowC at h
        simp at h
        exact h.1
      have hz : sizeLine = 16777216 := sizeLine_eq
      have e : isKindsD (.str cs) = (decide (1 ≤ cs.length) && decide (cs.length ≤ 4) && decide (cs.Nodup)) := by
        show isKindsC cs = _
        unfold isKindsC
        rw [h, Bool.true_and]
      rw [e] at k
      walk_at "rd"
      refine ⟨by omega, ite2 (fun h3 => ⟨by omega, ite2 (fun h4 => ⟨by omega, by omega, ?_⟩) fun h4 => ?_⟩) fun h3 => ?_⟩
      · rw [decide_eq_true (show 1 ≤ cs.length by have := of_decide_eq_true h3; omega), decide_eq_true (show cs.length ≤ 4 by have := of_decide_eq_true h4; omega)] at k
        have e2 : decide (((met cs).length : Int) = (cs.length : Int)) = decide cs.Nodup := by
          rw [decide_eq_decide, ← met_eq]
          omega
        rw [e2]
        exact rt_same (by simpa using k)
      · rw [decide_eq_false (show ¬ cs.length ≤ 4 by intro z; apply h4; exact decide_eq_true (by omega))] at k
        exact rt_same (by simpa using k)
      · rw [decide_eq_false (show ¬ 1 ≤ cs.length by intro z; apply h3; exact decide_eq_true (by omega))] at k
        exact rt_same (by simpa using k)
    | _ => cases h
  · have e : isKindsD d = false := by
      cases d with
      | str cs =>
        have h : ¬ isRowC cs = true := h
        show isKindsC cs = false
        unfold isKindsC
        rw [eq_false_of_ne_true h]
        rfl
      | _ => rfl
    rw [e] at k
    exact rt_same k
def N_check_row : List Str := ["row"]
def rd_check_row : RS := rIf (rNot (rTst (rCall sp_is_row (rCons (rVar 0) (rNil))))) (rRaise "BadRow" (rVar 0)) (rSkip)

def N_check_kinds : List Str := ["kinds"]
def rd_check_kinds : RS := rIf (rNot (rTst (rCall sp_is_kinds (rCons (rVar 0) (rNil))))) (rRaise "BadKinds" (rVar 0)) (rSkip)

theorem xd_same {xf : XF} {c : Str} {fs : List (Str × D)} {n : Nv} {m : Mem} (h : xf c fs m) : xdD xf c fs n m := ⟨m, Sub.refl m, h⟩
/-- what a check comes to -/
def chk (x : Str) (d : D) (m : Mem) (q : QD) (xf : XF) : Bool → Prop
  | true => q .non m
  | false => xf x [("given", d)] m
theorem chk_ok {x : Str} {d : D} {m : Mem} {q : QD} {xf : XF} {b : Bool} (h : b = true) (k : q .non m) : chk x d m q xf b := by
  rw [h]
  exact k
def sp_check_row : SpD := fun ds m q xf => ∃ d, ds = [d] ∧ Anyv d m ∧ chk "BadRow" d m q xf (isRowD d)
theorem rl_check_row : ∀ ds m q xf, sp_check_row ds m q xf → ds.length = ["row"].length := fun ds m q xf ⟨d, e, _⟩ => by rw [e]; rfl
theorem rp_check_row : ∀ ds m q xf, sp_check_row ds m q xf → rd_check_row (xdD xf) (enD q) (nvs N_check_row ds) m := by
  rintro ds m q xf ⟨d, rfl, ha, k⟩
  unfold rd_check_row N_check_row
  walk_at "rd"
  refine ⟨d, rfl, ha, ?_⟩
  cases h : isRowD d
  · rw [h] at k
    walk_at "rd"
    exact xd_same k
  · rw [h] at k
    walk_at "rd"
    exact rt_same k
def sp_check_kinds : SpD := fun ds m q xf => ∃ d, ds = [d] ∧ Anyv d m ∧ chk "BadKinds" d m q xf (isKindsD d)
theorem rl_check_kinds : ∀ ds m q xf, sp_check_kinds ds m q xf → ds.length = ["kinds"].length := fun ds m q xf ⟨d, e, _⟩ => by rw [e]; rfl
theorem rp_check_kinds : ∀ ds m q xf, sp_check_kinds ds m q xf → rd_check_kinds (xdD xf) (enD q) (nvs N_check_kinds ds) m := by
  rintro ds m q xf ⟨d, rfl, ha, k⟩
  unfold rd_check_kinds N_check_kinds
  walk_at "rd"
  refine ⟨d, rfl, ha, ?_⟩
  cases h : isKindsD d
  · rw [h] at k
    walk_at "rd"
    exact xd_same k
  · rw [h] at k
    walk_at "rd"
    exact rt_same k
theorem row_len {cs : List Nat} (h : isRowC cs = true) : cs.length ≤ 2000 := by
  unfold isRowC at h
  simp at h
  exact h.1
theorem kinds_row {cs : List Nat} (h : isKindsC cs = true) : isRowC cs = true := by
  unfold isKindsC at h
  simp at h
  exact h.1.1.1
theorem any_str {cs : List Nat} {m : Mem} (h : cs.length ≤ 16000000) : Anyv (.str cs) m := ⟨⟨_, rfl⟩, fun c e => by
  cases e
  rw [sizeLine_eq]
  omega⟩
theorem any_row {cs : List Nat} {m : Mem} (h : isRowC cs = true) : Anyv (.str cs) m := any_str (Nat.le_trans (row_len h) (by decide))
theorem any_kinds {cs : List Nat} {m : Mem} (h : isKindsC cs = true) : Anyv (.str cs) m := any_row (kinds_row h)
def N_places_of : List Str := ["row", "kinds", "unit"]
def rd_places_of : RS := rSeq (rDrop (rCall sp_check_row (rCons (rVar 0) (rNil))))
  (rSeq (rDrop (rCall sp_check_kinds (rCons (rVar 1) (rNil))))
  (rRet (rLcO (rRng1 (rCons (rCB gLen (rCons (rVar 0) (rNil))) (rNil))) (.nm 2) (rTst (rOp gIn (rOp gIx (rVar 0) (rVar 2)) (rVar 1))) (rVar 2) [2])))

def plF (rs ks : List Nat) : D → Option D
  | .int i => if decide (∃ c, atI rs i = some c ∧ c ∈ ks) = true then some (.int i) else none
  | _ => none
def placesD (rs ks : List Nat) : List D := (rngD 0 rs.length).filterMap (plF rs ks)
theorem mem_rngD {d : D} {lo : Int} {n : Nat} (h : d ∈ rngD lo n) : ∃ i : Nat, i < n ∧ d = .int (lo + i) := by
  unfold rngD at h
  obtain ⟨i, h1, h2⟩ := List.mem_map.mp h
  exact ⟨i, List.mem_range.mp h1, h2.symm⟩
theorem rngD_succ (lo : Int) (n : Nat) : rngD lo (n + 1) = .int lo :: rngD (lo + 1) n := by
  unfold rngD
  rw [List.range_succ_eq_map, List.map_cons, List.map_map]
  congr 1
  · simp
  · apply List.map_congr_left
    intro a _
    show D.int (lo + ((a + 1 : Nat) : Int)) = D.int (lo + 1 + a)
    congr 1
    omega
theorem rngD_zero (lo : Int) : rngD lo 0 = [] := rfl
theorem atI_nat {α : Type} {xs : List α} {i : Nat} (h : i < xs.length) : atI xs (0 + (i : Int)) = some xs[i] := by
  rw [Int.zero_add, atI_of (by omega) (by omega)]
  simp
theorem row_strT {d : D} (h : isRowD d = true) : ∃ cs, d = .str cs ∧ isRowC cs = true := by
  cases d with
  | str cs => exact ⟨cs, rfl, h⟩
  | _ => cases h
theorem kinds_strT {d : D} (h : isKindsD d = true) : ∃ cs, d = .str cs ∧ isKindsC cs = true := by
  cases d with
  | str cs => exact ⟨cs, rfl, h⟩
  | _ => cases h
/-- a row and kinds that may be none: which error is due, and what is told else -/
def rowKin (x y : D) (m : Mem) (xf : XF) (k : List Nat → List Nat → Prop) : Prop := Anyv x m ∧ Anyv y m ∧ (isRowD x = false → xf "BadRow" [("given", x)] m) ∧ (isRowD x = true → isKindsD y = false → xf "BadKinds" [("given", y)] m) ∧ ∀ rs ks, x = .str rs → y = .str ks → isRowC rs = true → isKindsC ks = true → k rs ks
def sp_places_of : SpD := fun ds m q xf => ∃ x y, ds = [x, y] ∧ rowKin x y m xf fun rs ks => ∀ p, m p = none → q (.ref p) (mset m p (.lst (placesD rs ks)))
theorem rl_places_of : ∀ ds m q xf, sp_places_of ds m q xf → ds.length = ["row", "kinds"].length := fun ds m q xf ⟨d, _, e, _⟩ => by rw [e]; rfl
theorem rp_places_of : ∀ ds m q xf, sp_places_of ds m q xf → rd_places_of (xdD xf) (enD q) (nvs N_places_of ds) m := by
  rintro ds m q xf ⟨x, y, rfl, ax, ay, k1, k2, k3⟩
  unfold rd_places_of N_places_of
  walk_at "rd"
  refine ⟨x, rfl, ax, ?_⟩
  cases e1 : isRowD x with
  | false => exact xd_same (n := []) (k1 e1)
  | true =>
  refine ⟨y, rfl, ay, ?_⟩
  cases e2 : isKindsD y with
  | false => exact xd_same (n := []) (k2 e1 e2)
  | true =>
  obtain ⟨rs, rfl, h1⟩ := row_strT e1
  obtain ⟨ks, rfl, h2⟩ := kinds_strT e2
  have k := k3 rs ks rfl rfl h1 h2
  clear k1 k2 k3
  walk_at "rd"
  have hl := row_len h1
  have hz : sizeLine = 16777216 := sizeLine_eq
  refine ⟨by omega, by omega, by omega, ?_⟩
  rw [Int.toNat_natCast]
  refine comp_go (plF rs ks) (by rw [rngD_length]; omega) (fun P hP x hx acc hl kk hk => ?_) fun P hP => ?_
  · obtain ⟨i, hi, rfl⟩ := mem_rngD hx
    walk_at "rd"
    rw [plF] at hk
    rw [atI_nat hi] at hk ⊢
    walk_at "rd"
    simp only [Option.some.injEq, exists_eq_left'] at hk
    refine ⟨by omega, ?_⟩
    by_cases hc : rs[i] ∈ ks
    · simp only [hc, decide_true, if_true] at hk ⊢
      exact ⟨hl, hk⟩
    · simp only [hc, decide_false, if_false, Bool.false_eq_true] at hk ⊢
      exact hk
  · exact rt_same (k P hP)
def sp_units_of : SpD := fun ds m q xf => ∃ x y, ds = [x, y] ∧ rowKin x y m xf fun rs ks => q (.int (placesD rs ks).length) m
def N_units_of : List Str := ["row", "kinds"]
def rd_units_of : RS := rRet (rCB gLen (rCons (rCall sp_places_of (rCons (rVar 0) (rCons (rVar 1) (rNil)))) (rNil)))

theorem rl_units_of : ∀ ds m q xf, sp_units_of ds m q xf → ds.length = ["row", "kinds"].length := fun ds m q xf ⟨d, _, e, _⟩ => by rw [e]; rfl
theorem rp_units_of : ∀ ds m q xf, sp_units_of ds m q xf → rd_units_of (xdD xf) (enD q) (nvs N_units_of ds) m := by
  rintro ds m q xf ⟨x, y, rfl, ax, ay, k1, k2, k3⟩
  unfold rd_units_of N_units_of
  walk_at "rd"
  refine ⟨x, y, rfl, ax, ay, fun h => xd_same (n := []) (k1 h), fun h1 h2 => xd_same (n := []) (k2 h1 h2), fun rs ks e1 e2 h1 h2 p hp => ?_⟩
  have k := k3 rs ks e1 e2 h1 h2
  walk_at "rd"
  exact rt_sub ((Sub.refl m).add hp) k
def N_longest_of : List Str := ["row", "kinds", "greatest", "now", "unit"]
def rd_longest_of : RS := rSeq (rDrop (rCall sp_check_row (rCons (rVar 0) (rNil))))
  (rSeq (rDrop (rCall sp_check_kinds (rCons (rVar 1) (rNil))))
  (rSeq (rSet (rC (.int 0)) 2)
  (rSeq (rSet (rC (.int 0)) 3)
  (rSeq (rFor (rAll (rVar 0)) (.nm 4) (rSeq (rSet (rIfE (rTst (rOp gIn (rVar 4) (rVar 1))) (rOp gAdd (rVar 3) (rC (.int 1))) (rC (.int 0))) 3)
  (rSet (rCB gMax2 (rCons (rVar 2) (rCons (rVar 3) (rNil)))) 2)))
  (rRet (rVar 2))))))

/-- the longest run: as the program finds it -/
def longGo (ks : List Nat) : Nat → Nat → List Nat → Nat
  | g, _, [] => g
  | g, n, c :: cs => if c ∈ ks then longGo ks (max g (n + 1)) (n + 1) cs else longGo ks g 0 cs
/-- a run at the head, and the longest run anywhere -/
def runC (ks : List Nat) : List Nat → Nat
  | [] => 0
  | c :: cs => if c ∈ ks then runC ks cs + 1 else 0
def bestC (ks : List Nat) : List Nat → Nat
  | [] => 0
  | c :: cs => max (runC ks (c :: cs)) (bestC ks cs)
theorem longGo_eq (ks : List Nat) : ∀ (cs : List Nat) (g n : Nat), longGo ks g n cs = max g (max (if runC ks cs = 0 then 0 else n + runC ks cs) (bestC ks cs))
  | [], g, n => by simp [longGo, runC, bestC]
  | c :: cs, g, n => by
    rw [longGo, bestC, runC]
    by_cases h : c ∈ ks
    · simp only [h, if_true]
      rw [longGo_eq ks cs, if_neg (Nat.succ_ne_zero _)]
      split <;> omega
    · simp only [h, if_false]
      rw [longGo_eq ks cs, if_pos trivial]
      have : runC ks cs ≤ bestC ks cs := by cases cs <;> simp [runC, bestC] <;> omega
      split <;> omega
theorem long_best (ks cs : List Nat) : longGo ks 0 0 cs = bestC ks cs := by
  rw [longGo_eq]
  have : runC ks cs ≤ bestC ks cs := by cases cs <;> simp [runC, bestC] <;> omega
  split <;> omega
def sp_longest_of : SpD := fun ds m q xf => ∃ x y, ds = [x, y] ∧ rowKin x y m xf fun rs ks => q (.int (bestC ks rs)) m
theorem rl_longest_of : ∀ ds m q xf, sp_longest_of ds m q xf → ds.length = ["row", "kinds"].length := fun ds m q xf ⟨d, _, e, _⟩ => by rw [e]; rfl
theorem rp_longest_of : ∀ ds m q xf, sp_longest_of ds m q xf → rd_longest_of (xdD xf) (enD q) (nvs N_longest_of ds) m := by
  rintro ds m q xf ⟨x, y, rfl, ax, ay, k1, k2, k3⟩
  unfold rd_longest_of N_longest_of
  walk_at "rd"
  refine ⟨x, rfl, ax, ?_⟩
  cases e1 : isRowD x with
  | false => exact xd_same (n := []) (k1 e1)
  | true =>
  refine ⟨y, rfl, ay, ?_⟩
  cases e2 : isKindsD y with
  | false => exact xd_same (n := []) (k2 e1 e2)
  | true =>
  obtain ⟨rs, rfl, h1⟩ := row_strT e1
  obtain ⟨ks, rfl, h2⟩ := kinds_strT e2
  have k := k3 rs ks rfl rfl h1 h2
  clear k1 k2 k3
  refine for_step (fun xs n m' => ∃ (cs : List Nat) (g : Nat) (r : Nat) (y : Option D), xs = chars cs ∧ n = [some (.str rs), some (.str ks), some (.int g), some (.int r), y] ∧ m' = m ∧ longGo ks g r cs = bestC ks rs) ?_ ?_ _ _ _ ⟨rs, 0, 0, none, rfl, rfl, rfl, long_best ks rs⟩
  · rintro n m' ⟨cs, g, r, y, h, rfl, rfl, hg⟩
    cases cs with
    | cons c cs => cases h
    | nil =>
      rw [longGo] at hg
      rw [← hg] at k
      walk_at "rd"
      exact rt_same k
  · rintro x xs n m' ⟨cs, g, r, y, h, rfl, rfl, hg⟩ kk hk
    cases cs with
    | nil => cases h
    | cons c cs =>
      cases h
      rw [longGo] at hg
      walk_at "rd"
      by_cases hc : c ∈ ks
      · simp only [hc, if_true, decide_true] at hg ⊢
        refine hk _ _ ⟨cs, _, _, some (.str [c]), rfl, ?_, rfl, hg⟩
        have e1 : (if ((r : Int) + 1) > (g : Int) then ((r : Int) + 1) else (g : Int)) = ((max g (r + 1) : Nat) : Int) := by split <;> omega
        rw [e1]
        rfl
      · simp only [hc, if_false, decide_false, Bool.false_eq_true] at hg ⊢
        refine hk _ _ ⟨cs, g, 0, some (.str [c]), rfl, ?_, rfl, hg⟩
        have e1 : (if (0 : Int) > (g : Int) then (0 : Int) else (g : Int)) = (g : Int) := by split <;> omega
        rw [e1]
        rfl
/-! ### signs, joined and drawn -/
theorem atI_mem {α : Type} {L : List α} {r : Int} (h0 : 0 ≤ r) (h1 : r < L.length) : ∃ x, x ∈ L ∧ atI L r = some x := ⟨_, List.getElem_mem (by omega), atI_of h0 h1⟩
theorem glu_fold (a : List Nat) : ∀ (rest : List (List Nat)) (acc : Array Nat), ((rest.map ofC).foldl (fun acc p => acc ++ (ofC a).cps ++ p.cps) acc).toList = acc.toList ++ (rest.map (a ++ ·)).flatten
  | [], acc => by simp
  | x :: rest, acc => by
    rw [List.map_cons, List.foldl_cons, glu_fold a rest]
    simp
theorem joinC_cons (a x : List Nat) (rest : List (List Nat)) : joinC a (x :: rest) = x ++ (rest.map (a ++ ·)).flatten := by
  show (((x :: rest).map ofC).drop 1 |>.foldl _ (((x :: rest).map ofC).headD Str.empty).cps).toList = _
  rw [List.map_cons, List.drop_one, List.tail_cons]
  exact glu_fold a rest _
theorem joinC_nil (ys : List (List Nat)) : joinC [] ys = ys.flatten := by
  cases ys with
  | nil => rfl
  | cons x r =>
    rw [joinC_cons, List.flatten_cons]
    simp
theorem chars_map (cs : List Nat) : chars cs = (cs.map fun c => [c]).map D.str := by
  unfold chars
  rw [List.map_map]
  rfl
theorem txts_chars (cs : List Nat) : txts (chars cs) = some (cs.map fun c => [c]) := by rw [chars_map, strs_map]
theorem flat_ones (cs : List Nat) : (cs.map fun c => [c]).flatten = cs := by
  induction cs with
  | nil => rfl
  | cons c cs ih => rw [List.map_cons, List.flatten_cons, ih]; rfl
theorem sum_ones (cs : List Nat) : ((cs.map fun c => [c]).map fun x => x.length).sum = cs.length := by
  induction cs with
  | nil => rfl
  | cons c cs ih => rw [List.map_cons, List.map_cons, List.sum_cons, ih, List.length_cons]; simp; omega
def getC : D → Option Nat
  | .str [c] => some c
  | _ => none
theorem perm_chars {zs : List D} {cs : List Nat} (h : zs.Perm (chars cs)) : ∃ cs', zs = chars cs' ∧ cs'.Perm cs := by
  refine ⟨zs.filterMap getC, ?_, ?_⟩
  · have hz : ∀ z ∈ zs, ∃ c, z = .str [c] := fun z hz => by
      obtain ⟨c, _, e⟩ := mem_chars (h.mem_iff.mp hz)
      exact ⟨c, e⟩
    clear h
    induction zs with
    | nil => rfl
    | cons z zs ih =>
      obtain ⟨c, rfl⟩ := hz z List.mem_cons_self
      rw [show (D.str [c] :: zs).filterMap getC = c :: zs.filterMap getC from rfl]
      show _ = D.str [c] :: chars _
      rw [← ih fun z h => hz z (List.mem_cons_of_mem _ h)]
  · have := h.filterMap getC
    have e : (chars cs).filterMap getC = cs := by
      unfold chars
      rw [List.filterMap_map]
      show cs.filterMap some = cs
      exact List.filterMap_some
    rw [e] at this
    exact this
theorem row_perm {a b : List Nat} (h : a.Perm b) : isRowC a = isRowC b := by
  unfold isRowC
  rw [h.length_eq, h.all_eq]
theorem kinds_perm {a b : List Nat} (h : a.Perm b) : isKindsC a = isKindsC b := by
  unfold isKindsC
  rw [row_perm h, h.length_eq]
  congr 1
  rw [decide_eq_decide]
  exact h.nodup_iff
def N_stretches : List Str := ["row", "found", "begin", "unit"]
def rd_stretches : RS := rSeq (rDrop (rCall sp_check_row (rCons (rVar 0) (rNil))))
  (rSeq (rSet (rLstO (rNil)) 1)
  (rSeq (rSet (rC (.int 0)) 2)
  (rSeq (rFor (rRng2 (rCons (rC (.int 1)) (rCons (rOp gAdd (rCB gLen (rCons (rVar 0) (rNil))) (rC (.int 1))) (rNil)))) (.nm 3) (rIf (rOr (rTst (rOp gEq (rVar 3) (rCB gLen (rCons (rVar 0) (rNil))))) (rTst (rOp gNe (rOp gIx (rVar 0) (rVar 3)) (rOp gIx (rVar 0) (rVar 2))))) (rSeq (rDrop (rLM gAppend (rVar 1) (rCons (rTup (rCons (rOp gIx (rVar 0) (rVar 2)) (rCons (rVar 2) (rCons (rVar 3) (rNil))))) (rNil))))
  (rSet (rVar 3) 2)) (rSkip)))
  (rRet (rVar 1)))))

/-- of what is no row -/
def sp_stretches : SpD := fun ds m q xf => ∃ x, ds = [x] ∧ Anyv x m ∧ isRowD x = false ∧ xf "BadRow" [("given", x)] m
theorem rl_stretches : ∀ ds m q xf, sp_stretches ds m q xf → ds.length = ["row"].length := fun ds m q xf ⟨_, e, _⟩ => by rw [e]; rfl
theorem rp_stretches : ∀ ds m q xf, sp_stretches ds m q xf → rd_stretches (xdD xf) (enD q) (nvs N_stretches ds) m := by
  rintro ds m q xf ⟨x, rfl, ax, hr, k⟩
  unfold rd_stretches N_stretches
  walk_at "rd"
  refine ⟨x, rfl, ax, ?_⟩
  rw [hr]
  exact xd_same (n := []) k
def N_as_text : List Str := ["row", "letter", "begin", "end"]
def rd_as_text : RS := rRet (rSM gJoin (rC (.str [32])) (rCons (rLc (rAll (rCall sp_stretches (rCons (rVar 0) (rNil)))) (.tp [1, 2, 3]) (rYes) (rJoined [rFmt (rOp gSub (rVar 3) (rVar 2)), rFmt (rVar 1)]) [1, 2, 3]) (rNil)))

def sp_as_text : SpD := fun ds m q xf => ∃ x, ds = [x] ∧ Anyv x m ∧ isRowD x = false ∧ xf "BadRow" [("given", x)] m
theorem rl_as_text : ∀ ds m q xf, sp_as_text ds m q xf → ds.length = ["row"].length := fun ds m q xf ⟨_, e, _⟩ => by rw [e]; rfl
theorem rp_as_text : ∀ ds m q xf, sp_as_text ds m q xf → rd_as_text (xdD xf) (enD q) (nvs N_as_text ds) m := by
  rintro ds m q xf ⟨x, rfl, ax, hr, k⟩
  unfold rd_as_text N_as_text
  walk_at "rd"
  exact ⟨⟨_, rfl⟩, x, rfl, ax, hr, xd_same (n := []) k⟩
end DL

namespace DL
open PySem PySem.Spec PyProof.Rows L2
/-! a row drawn -/
local macro_rules | `(tactic| walk_at "rd") => `(tactic| simp only [rSetU, rGetE, gGetE, rSetDef, gSetDef, rListVals, gInTx, rSlT, gSlT, rStarS, rListValsK, rLenSetI, rSortSetI, rSetOb, rGetOb, rMkX, rMkX0, rXv, rIsV, rIsVE, rPutOb, gSortDI, gSortLI, gAddO, gInKD, rDct0K, rSetK, rInK, rGetK, gGetK, gDictP, rBack, rRngB, gSum, rLam, rGive, rDeed, rRaise0, rForK, rStar, rDcT, rbPutT, gMaxP, rSlO, gSlO, rPar, rMinLen, gMinL, rInD, rSetT, rDct0T, rDct1T, rDc, rLcG, rbClause, rbEmit, rZip2, rZip3, rCallO, gLenD, gLenO, gMaxL, gSortL, gSortLO, rGetT, gGetT, gSortD, gSortDO, gKeysT, gKeysTO, rAsgL, gEqS, gInTN, rFld, rSetF, rMeth, rMake, rFrzI, rProp, rIsC, rRev, rAllK, rLcK, rLcKO, ew0, ew1, ew2, ew3, ew4, ew5, ew6, rRaise, rTry, xCls, enO, setO, rXf, rIsX, Option.elim_some, Option.elim_none, rSeq, rSet, rAsg, rRet, rRetN, rDrop, rIf, rSkip, rVar, rC, rOp, rUn, rTst, rTru, rNot, rAnd, rOr, rAndV, rOrV, rNotV, rIfE, rChain, rCons, rNil, rTup, rLst, rLstO, rCB, rLM, rSM, rSl, rPart, rNoPart, rAll, rRng1, rRng2, rFor, rCall, rAug, rSetIx, rLenSet, rFmt, rJoined, rJs, rLc, rLcO, rFrz, setAll, rYes, rNever, wipeN, nvs, enD, turnD, gNe, gLt, gLe, gGt, gGe, gIn, gNotIn, gIs, gIsNot, gMod, gFdiv, gPow, gAppend, gPop, gPopAt, gClear, gReverse, gExtend, gJoin, gSplit, nm_T, tp_T, at_0, at_1, at_2, at_3, at_4, at_5, at_6, at_7, ix_0, ix_1, ix_2, ix_3, ix_4, List.map_cons, List.map_nil, List.length_cons, List.length_nil, List.replicate, List.cons_append, List.nil_append, List.getElem?_cons_zero, List.getElem?_cons_succ, List.set_cons_zero, List.set_cons_succ, Option.some.injEq, exists_eq_left', exists_eq_left, exists_and_left, D.int.injEq, D.str.injEq, D.bl.injEq, D.ref.injEq, D.tup.injEq, D.lst.injEq, MO.lst.injEq, List.cons.injEq, and_true, true_and, if_true, if_false, Bool.false_eq_true, Nat.reduceSub, Nat.reduceAdd, reduceIte, reduceCtorEq, mset_same, mset_mset, Bool.not_true, Bool.not_false, imp_self, implies_true, not_false_eq_true, forall_const, ev0, ev1, ev2, ev3, ev4, ev5, ev6, ev7, ev8, ev9, ev10, ev11, ev12, ev13, ev14, ev15, ev16, ev17, ev18, ev19, ev20, ev21, ev22, ev23, ev24, ev25, ev26, ev27, ev28, ev29, ev30, ev31, ev32, ev33, ev34, ev35, ev36, ev37, ev38, ev39, ev40, ev41, ev42, ev43, ev44, ev45, ev46, ev47, ev48, ev49, ev50, ev51, ev52, ev53, ev54, ev55, ev56, ev57, ev58, ev59, ev60, ev61, ev62, ev63, ev64, ev65, ev66, ev67, ev68, ev69, ev70, ev71, ev72, ev73, ev74, ev75, ev76, ev77, ev78, ev79, ev80, ev81, ev82, ev83, ev84, ev85, ev86, ev87, ev88, ev89, ev90, ev91, ev92, ev93, ev94, ev95, ev96, ev97, ev98, ev99, ev100, ev101, ev102, ev103, ev104, ev105, ev106, ev107, ev108, ev109, ev110, ev111, ev112, ev113, ev114, ev115, ev116, ev117, ev118, ev119, ev120, ev121, ev122, ev123, ev124, ev125, ev126, ev127, ev128, ev129, ev130, ev131, ev132, ev133, ev134, ev135, ev136, ev137, ev138, ev139, ev140, ev141, ev142, ev143, ev144, ev145, ev146, ev147, ev148, ev149, ev150, ev151, ev152, ev153, ev154, ev155, ev156, ev157, ev158, ev159, ev160, ev161, ev162])
local macro_rules | `(tactic| walk_at "rq") => `(tactic| simp only [rSetU, rGetE, gGetE, rSetDef, gSetDef, rListVals, gInTx, rSlT, gSlT, rStarS, rListValsK, rLenSetI, rSortSetI, rSetOb, rGetOb, rMkX, rMkX0, rXv, rIsV, rIsVE, rPutOb, gSortDI, gSortLI, gAddO, gInKD, rDct0K, rSetK, rInK, rGetK, gGetK, gDictP, rBack, rRngB, gSum, rLam, rGive, rDeed, rRaise0, rForK, rStar, rDcT, rbPutT, gMaxP, rSlO, gSlO, rPar, rMinLen, gMinL, rInD, rSetT, rDct0T, rDct1T, rDc, rLcG, rbClause, rbEmit, rZip2, rZip3, rCallO, gLenD, gLenO, gMaxL, gSortL, gSortLO, rGetT, gGetT, gSortD, gSortDO, gKeysT, gKeysTO, rAsgL, gEqS, gInTN, rFld, rSetF, rMeth, rMake, rFrzI, rProp, rIsC, rRev, rAllK, rLcK, rLcKO, ew0, ew1, ew2, ew3, ew4, ew5, ew6, rRaise, rTry, xCls, enO, setO, rXf, rIsX, Option.elim_some, Option.elim_none, rSeq, rSet, rAsg, rRet, rRetN, rDrop, rIf, rSkip, rVar, rC, rOp, rUn, rTst, rTru, rNot, rAnd, rOr, rAndV, rOrV, rNotV, rIfE, rChain, rCons, rNil, rTup, rLst, rLstO, rCB, rLM, rSM, rSl, rPart, rNoPart, rAll, rRng1, rRng2, rFor, rCall, rAug, rSetIx, rLenSet, rFmt, rJoined, rJs, rLc, rLcO, rFrz, setAll, rYes, rNever, wipeN, nvs, enD, turnD, gNe, gLt, gLe, gGt, gGe, gIn, gNotIn, gIs, gIsNot, gMod, gFdiv, gPow, gAppend, gPop, gPopAt, gClear, gReverse, gExtend, gJoin, gSplit, nm_T, tp_T, at_0, at_1, at_2, at_3, at_4, at_5, at_6, at_7, ix_0, ix_1, ix_2, ix_3, ix_4, List.map_cons, List.map_nil, List.length_cons, List.length_nil, List.replicate, List.cons_append, List.nil_append, List.getElem?_cons_zero, List.getElem?_cons_succ, List.set_cons_zero, List.set_cons_succ, Option.some.injEq, exists_eq_left', exists_eq_left, exists_and_left, D.int.injEq, D.str.injEq, D.bl.injEq, D.ref.injEq, D.tup.injEq, D.lst.injEq, MO.lst.injEq, List.cons.injEq, and_true, true_and, if_true, if_false, Bool.false_eq_true, Nat.reduceSub, Nat.reduceAdd, reduceIte, reduceCtorEq, mset_same, mset_mset, Bool.not_true, Bool.not_false, imp_self, implies_true, not_false_eq_true, forall_const, ev0, ev1, ev2, ev3, ev4, ev5, ev6, ev7, ev8, ev9, ev10, ev11, ev12, ev13, ev14, ev15, ev16, ev17, ev18, ev19, ev20, ev21, ev22, ev23, ev24, ev25, ev26, ev27, ev28, ev29, ev30, ev31, ev32, ev33, ev34, ev35, ev36, ev37, ev38, ev39, ev40, ev41, ev42, ev43, ev44, ev45, ev46, ev47, ev48, ev49, ev50, ev51, ev52, ev53, ev54, ev55, ev56, ev57, ev58, ev59, ev60, ev61, ev62, ev63, ev64, ev65, ev66, ev67, ev68, ev69, ev70, ev71, ev72, ev73, ev74, ev75, ev76, ev77, ev78, ev79, ev80, ev81, ev82, ev83, ev84, ev85, ev86, ev87, ev88, ev89, ev90, ev91, ev92, ev93, ev94, ev95, ev96, ev97, ev98, ev99, ev100, ev101, ev102, ev103, ev104, ev105, ev106, ev107, ev108, ev109, ev110, ev111, ev112, ev113, ev114, ev115, ev116, ev117, ev118, ev119, ev120, ev121, ev122, ev123, ev124, ev125, ev126, ev127, ev128, ev129, ev130, ev131, ev132, ev133, ev134, ev135, ev136, ev137, ev138, ev139, ev140, ev141, ev142, ev143, ev144, ev145, ev146, ev147, ev148, ev149, ev150, ev151, ev152, ev153, ev154, ev155, ev156, ev157, ev158, ev159, ev160, ev161, ev162, Int.reduceEq, Int.reduceNe, Int.reduceLT, Int.reduceLE, Int.reduceNeg, decide_true, decide_false])
def N__law_row : List Str := ["_law_bag_here", "_law_most", "_law_letters", "_law_k"]
def rd__law_row : RS := rSeq (rSet (rOp gIx (rLst (rCons (rC (.str [100, 119, 97, 114])) (rCons (rC (.str [100, 114])) (rCons (rC (.str [100, 100, 119, 114])) (rCons (rC (.str [100, 114, 114])) (rNil)))))) (rCall sp__law_draw (rCons (rVar 0) (rCons (rC (.int 4)) (rNil))))) 2)
  (rRet (rSM gJoin (rC (.str [])) (rCons (rLc (rRng1 (rCons (rCall sp__law_draw (rCons (rVar 0) (rCons (rOp gAdd (rVar 1) (rC (.int 1))) (rNil)))) (rNil))) (.nm 3) (rYes) (rOp gIx (rVar 2) (rCall sp__law_draw (rCons (rVar 0) (rCons (rCB gLen (rCons (rVar 2) (rNil))) (rNil))))) [3]) (rNil))))

def sp__law_row : SpD := fun ds m q _ => ∃ b, ∃ most : Nat, ds = [.ref b, .int most] ∧ m b = some (.inv Bag) ∧ most ≤ 2000 ∧ ∀ rs, isRowC rs = true → rs.length ≤ most → q (.str rs) m
theorem rl__law_row : ∀ ds m q xf, sp__law_row ds m q xf → ds.length = ["_law_bag_here", "_law_most"].length := fun ds m q xf ⟨d, _, e, _⟩ => by rw [e]; rfl
theorem rp__law_row : ∀ ds m q xf, sp__law_row ds m q xf → rd__law_row (xdD xf) (enD q) (nvs N__law_row ds) m := by
  rintro ds m q xf ⟨b, most, rfl, hb, hm, k⟩
  unfold rd__law_row N__law_row
  walk_at "rd"
  have hz : sizeLine = 16777216 := sizeLine_eq
  refine ⟨by decide, _, _, rfl, hb, by decide, by decide, fun r h0 h1 => ?_⟩
  walk_at "rd"
  obtain ⟨y, hy, ey⟩ := atI_mem (L := [D.str [100, 119, 97, 114], D.str [100, 114], D.str [100, 100, 119, 114], D.str [100, 114, 114]]) h0 h1
  have hy : ∃ cs, y = .str cs ∧ cs.all isL = true ∧ cs.length ≤ 4 ∧ 1 ≤ cs.length := by
    simp at hy
    rcases hy with rfl | rfl | rfl | rfl <;> exact ⟨_, rfl, by decide, by decide, by decide⟩
  obtain ⟨cs, rfl, hcs, hc4, hc1⟩ := hy
  refine ⟨_, ey, ⟨_, rfl⟩, _, _, rfl, hb, by omega, by omega, fun r2 g0 g1 => ?_⟩
  walk_at "rd"
  refine ⟨by omega, by omega, fun P hP => ?_⟩
  have hbP : b ≠ P := mne hb hP
  refine comp_step (fun xs m' => ∃ ls : List Nat, m' = mset m P (.lst (chars ls)) ∧ ls.all isL = true ∧ ls.length + xs.length = r2.toNat) ?_ ?_ _ _ ⟨[], rfl, rfl, by rw [rngD_length]; simp⟩
  · rintro m' ⟨ls, rfl, hls, hn⟩
    simp only [List.length_nil, Nat.add_zero] at hn
    refine ⟨_, mset_same, _, txts_chars ls, by rw [sum_ones]; omega, ?_⟩
    rw [joinC_nil, flat_ones, mdel_mset hP]
    refine rt_same (k ls ?_ (by omega))
    unfold isRowC
    rw [hls, decide_eq_true (by omega)]
    rfl
  · rintro x xs m' ⟨ls, rfl, hls, hn⟩ kk hk
    rw [List.length_cons] at hn
    walk_at "rd"
    refine ⟨by omega, _, _, rfl, by rw [mset_ne hbP]; exact hb, by omega, by omega, fun r3 f0 f1 => ?_⟩
    walk_at "rd"
    obtain ⟨c, hc, ec⟩ := atI_mem f0 f1
    refine ⟨by omega, c, ec, by rw [chars_length]; omega, hk _ ⟨ls ++ [c], ?_, ?_, ?_⟩⟩
    · unfold chars
      rw [List.map_append]
      rfl
    · rw [List.all_append, hls, List.all_cons, List.all_eq_true.mp hcs c hc]
      rfl
    · rw [List.length_append, List.length_cons, List.length_nil]
      omega
end DL

namespace DL
open PySem PySem.Spec PyProof.Rows L2
/-! kinds drawn by bits -/
local macro_rules | `(tactic| walk_at "rd") => `(tactic| simp only [rSetU, rGetE, gGetE, rSetDef, gSetDef, rListVals, gInTx, rSlT, gSlT, rStarS, rListValsK, rLenSetI, rSortSetI, rSetOb, rGetOb, rMkX, rMkX0, rXv, rIsV, rIsVE, rPutOb, gSortDI, gSortLI, gAddO, gInKD, rDct0K, rSetK, rInK, rGetK, gGetK, gDictP, rBack, rRngB, gSum, rLam, rGive, rDeed, rRaise0, rForK, rStar, rDcT, rbPutT, gMaxP, rSlO, gSlO, rPar, rMinLen, gMinL, rInD, rSetT, rDct0T, rDct1T, rDc, rLcG, rbClause, rbEmit, rZip2, rZip3, rCallO, gLenD, gLenO, gMaxL, gSortL, gSortLO, rGetT, gGetT, gSortD, gSortDO, gKeysT, gKeysTO, rAsgL, gEqS, gInTN, rFld, rSetF, rMeth, rMake, rFrzI, rProp, rIsC, rRev, rAllK, rLcK, rLcKO, ew0, ew1, ew2, ew3, ew4, ew5, ew6, rRaise, rTry, xCls, enO, setO, rXf, rIsX, Option.elim_some, Option.elim_none, rSeq, rSet, rAsg, rRet, rRetN, rDrop, rIf, rSkip, rVar, rC, rOp, rUn, rTst, rTru, rNot, rAnd, rOr, rAndV, rOrV, rNotV, rIfE, rChain, rCons, rNil, rTup, rLst, rLstO, rCB, rLM, rSM, rSl, rPart, rNoPart, rAll, rRng1, rRng2, rFor, rCall, rAug, rSetIx, rLenSet, rFmt, rJoined, rJs, rLc, rLcO, rFrz, setAll, rYes, rNever, wipeN, nvs, enD, turnD, gNe, gLt, gLe, gGt, gGe, gIn, gNotIn, gIs, gIsNot, gMod, gFdiv, gPow, gAppend, gPop, gPopAt, gClear, gReverse, gExtend, gJoin, gSplit, nm_T, tp_T, at_0, at_1, at_2, at_3, at_4, at_5, at_6, at_7, ix_0, ix_1, ix_2, ix_3, ix_4, List.map_cons, List.map_nil, List.length_cons, List.length_nil, List.replicate, List.cons_append, List.nil_append, List.getElem?_cons_zero, List.getElem?_cons_succ, List.set_cons_zero, List.set_cons_succ, Option.some.injEq, exists_eq_left', exists_eq_left, exists_and_left, D.int.injEq, D.str.injEq, D.bl.injEq, D.ref.injEq, D.tup.injEq, D.lst.injEq, MO.lst.injEq, List.cons.injEq, and_true, true_and, if_true, if_false, Bool.false_eq_true, Nat.reduceSub, Nat.reduceAdd, reduceIte, reduceCtorEq, mset_same, mset_mset, Bool.not_true, Bool.not_false, imp_self, implies_true, not_false_eq_true, forall_const, ev0, ev1, ev2, ev3, ev4, ev5, ev6, ev7, ev8, ev9, ev10, ev11, ev12, ev13, ev14, ev15, ev16, ev17, ev18, ev19, ev20, ev21, ev22, ev23, ev24, ev25, ev26, ev27, ev28, ev29, ev30, ev31, ev32, ev33, ev34, ev35, ev36, ev37, ev38, ev39, ev40, ev41, ev42, ev43, ev44, ev45, ev46, ev47, ev48, ev49, ev50, ev51, ev52, ev53, ev54, ev55, ev56, ev57, ev58, ev59, ev60, ev61, ev62, ev63, ev64, ev65, ev66, ev67, ev68, ev69, ev70, ev71, ev72, ev73, ev74, ev75, ev76, ev77, ev78, ev79, ev80, ev81, ev82, ev83, ev84, ev85, ev86, ev87, ev88, ev89, ev90, ev91, ev92, ev93, ev94, ev95, ev96, ev97, ev98, ev99, ev100, ev101, ev102, ev103, ev104, ev105, ev106, ev107, ev108, ev109, ev110, ev111, ev112, ev113, ev114, ev115, ev116, ev117, ev118, ev119, ev120, ev121, ev122, ev123, ev124, ev125, ev126, ev127, ev128, ev129, ev130, ev131, ev132, ev133, ev134, ev135, ev136, ev137, ev138, ev139, ev140, ev141, ev142, ev143, ev144, ev145, ev146, ev147, ev148, ev149, ev150, ev151, ev152, ev153, ev154, ev155, ev156, ev157, ev158, ev159, ev160, ev161, ev162])
local macro_rules | `(tactic| walk_at "rq") => `(tactic| simp only [rSetU, rGetE, gGetE, rSetDef, gSetDef, rListVals, gInTx, rSlT, gSlT, rStarS, rListValsK, rLenSetI, rSortSetI, rSetOb, rGetOb, rMkX, rMkX0, rXv, rIsV, rIsVE, rPutOb, gSortDI, gSortLI, gAddO, gInKD, rDct0K, rSetK, rInK, rGetK, gGetK, gDictP, rBack, rRngB, gSum, rLam, rGive, rDeed, rRaise0, rForK, rStar, rDcT, rbPutT, gMaxP, rSlO, gSlO, rPar, rMinLen, gMinL, rInD, rSetT, rDct0T, rDct1T, rDc, rLcG, rbClause, rbEmit, rZip2, rZip3, rCallO, gLenD, gLenO, gMaxL, gSortL, gSortLO, rGetT, gGetT, gSortD, gSortDO, gKeysT, gKeysTO, rAsgL, gEqS, gInTN, rFld, rSetF, rMeth, rMake, rFrzI, rProp, rIsC, rRev, rAllK, rLcK, rLcKO, ew0, ew1, ew2, ew3, ew4, ew5, ew6, rRaise, rTry, xCls, enO, setO, rXf, rIsX, Option.elim_some, Option.elim_none, rSeq, rSet, rAsg, rRet, rRetN, rDrop, rIf, rSkip, rVar, rC, rOp, rUn, rTst, rTru, rNot, rAnd, rOr, rAndV, rOrV, rNotV, rIfE, rChain, rCons, rNil, rTup, rLst, rLstO, rCB, rLM, rSM, rSl, rPart, rNoPart, rAll, rRng1, rRng2, rFor, rCall, rAug, rSetIx, rLenSet, rFmt, rJoined, rJs, rLc, rLcO, rFrz, setAll, rYes, rNever, wipeN, nvs, enD, turnD, gNe, gLt, gLe, gGt, gGe, gIn, gNotIn, gIs, gIsNot, gMod, gFdiv, gPow, gAppend, gPop, gPopAt, gClear, gReverse, gExtend, gJoin, gSplit, nm_T, tp_T, at_0, at_1, at_2, at_3, at_4, at_5, at_6, at_7, ix_0, ix_1, ix_2, ix_3, ix_4, List.map_cons, List.map_nil, List.length_cons, List.length_nil, List.replicate, List.cons_append, List.nil_append, List.getElem?_cons_zero, List.getElem?_cons_succ, List.set_cons_zero, List.set_cons_succ, Option.some.injEq, exists_eq_left', exists_eq_left, exists_and_left, D.int.injEq, D.str.injEq, D.bl.injEq, D.ref.injEq, D.tup.injEq, D.lst.injEq, MO.lst.injEq, List.cons.injEq, and_true, true_and, if_true, if_false, Bool.false_eq_true, Nat.reduceSub, Nat.reduceAdd, reduceIte, reduceCtorEq, mset_same, mset_mset, Bool.not_true, Bool.not_false, imp_self, implies_true, not_false_eq_true, forall_const, ev0, ev1, ev2, ev3, ev4, ev5, ev6, ev7, ev8, ev9, ev10, ev11, ev12, ev13, ev14, ev15, ev16, ev17, ev18, ev19, ev20, ev21, ev22, ev23, ev24, ev25, ev26, ev27, ev28, ev29, ev30, ev31, ev32, ev33, ev34, ev35, ev36, ev37, ev38, ev39, ev40, ev41, ev42, ev43, ev44, ev45, ev46, ev47, ev48, ev49, ev50, ev51, ev52, ev53, ev54, ev55, ev56, ev57, ev58, ev59, ev60, ev61, ev62, ev63, ev64, ev65, ev66, ev67, ev68, ev69, ev70, ev71, ev72, ev73, ev74, ev75, ev76, ev77, ev78, ev79, ev80, ev81, ev82, ev83, ev84, ev85, ev86, ev87, ev88, ev89, ev90, ev91, ev92, ev93, ev94, ev95, ev96, ev97, ev98, ev99, ev100, ev101, ev102, ev103, ev104, ev105, ev106, ev107, ev108, ev109, ev110, ev111, ev112, ev113, ev114, ev115, ev116, ev117, ev118, ev119, ev120, ev121, ev122, ev123, ev124, ev125, ev126, ev127, ev128, ev129, ev130, ev131, ev132, ev133, ev134, ev135, ev136, ev137, ev138, ev139, ev140, ev141, ev142, ev143, ev144, ev145, ev146, ev147, ev148, ev149, ev150, ev151, ev152, ev153, ev154, ev155, ev156, ev157, ev158, ev159, ev160, ev161, ev162, Int.reduceEq, Int.reduceNe, Int.reduceLT, Int.reduceLE, Int.reduceNeg, decide_true, decide_false])
def N__law_kinds : List Str := ["_law_bag_here", "_law_bits", "_law_kinds_here", "_law_k"]
def rd__law_kinds : RS := rSeq (rSet (rOp gIx (rLst (rCons (rC (.int 1)) (rCons (rC (.int 1)) (rCons (rC (.int 3)) (rCons (rC (.int 7)) (rCons (rC (.int 15)) (rCons (rC (.int 2)) (rCons (rC (.int 9)) (rCons (rC (.int 6)) (rCons (rC (.int 8)) (rCons (rC (.int 4)) (rCons (rC (.int 5)) (rCons (rC (.int 10)) (rCons (rC (.int 11)) (rCons (rC (.int 12)) (rCons (rC (.int 13)) (rCons (rC (.int 14)) (rNil)))))))))))))))))) (rCall sp__law_draw (rCons (rVar 0) (rCons (rC (.int 16)) (rNil))))) 1)
  (rSeq (rSet (rLc (rRng1 (rCons (rC (.int 4)) (rNil))) (.nm 3) (rTst (rOp gEq (rOp gMod (rCB gInt (rCons (rOp gFdiv (rVar 1) (rOp gIx (rLst (rCons (rC (.int 1)) (rCons (rC (.int 2)) (rCons (rC (.int 4)) (rCons (rC (.int 8)) (rNil)))))) (rVar 3))) (rNil))) (rC (.int 2))) (rC (.int 1)))) (rOp gIx (rLst (rCons (rC (.str [100])) (rCons (rC (.str [119])) (rCons (rC (.str [97])) (rCons (rC (.str [114])) (rNil)))))) (rVar 3)) [3]) 2)
  (rRet (rSM gJoin (rC (.str [])) (rCons (rCall sp__law_mixed (rCons (rVar 0) (rCons (rVar 2) (rNil)))) (rNil)))))

def sp__law_kinds : SpD := fun ds m q _ => ∃ b, ds = [.ref b] ∧ m b = some (.inv Bag) ∧ ∀ ks, isKindsC ks = true → q (.str ks) m
theorem rl__law_kinds : ∀ ds m q xf, sp__law_kinds ds m q xf → ds.length = ["_law_bag_here"].length := fun ds m q xf ⟨d, e, _⟩ => by rw [e]; rfl
def bitC (bt : Int) : D → Option D
  | .int 0 => if bt / 1 % 2 = 1 then some (.str [100]) else none
  | .int 1 => if bt / 2 % 2 = 1 then some (.str [119]) else none
  | .int 2 => if bt / 4 % 2 = 1 then some (.str [97]) else none
  | .int 3 => if bt / 8 % 2 = 1 then some (.str [114]) else none
  | _ => none
theorem rp__law_kinds : ∀ ds m q xf, sp__law_kinds ds m q xf → rd__law_kinds (xdD xf) (enD q) (nvs N__law_kinds ds) m := by
  rintro ds m q xf ⟨b, rfl, hb, k⟩
  unfold rd__law_kinds N__law_kinds
  have hz : sizeLine = 16777216 := sizeLine_eq
  walk_at "rd"
  refine ⟨by decide, _, _, rfl, hb, by decide, by decide, fun r h0 h1 => ?_⟩
  obtain ⟨x, hx, ex⟩ := atI_mem (L := [D.int 1, D.int 1, D.int 3, D.int 7, D.int 15, D.int 2, D.int 9, D.int 6, D.int 8, D.int 4, D.int 5, D.int 10, D.int 11, D.int 12, D.int 13, D.int 14]) h0 h1
  have hx : ∃ bt : Int, x = .int bt ∧ ∃ cs, [D.int 0, D.int 1, D.int 2, D.int 3].filterMap (bitC bt) = chars cs ∧ isKindsC cs = true := by
    simp only [List.mem_cons, List.not_mem_nil, or_false] at hx
    rcases hx with rfl | rfl | rfl | rfl | rfl | rfl | rfl | rfl | rfl | rfl | rfl | rfl | rfl | rfl | rfl | rfl
    · exact ⟨_, rfl, [100], rfl, by decide⟩
    · exact ⟨_, rfl, [100], rfl, by decide⟩
    · exact ⟨_, rfl, [100, 119], rfl, by decide⟩
    · exact ⟨_, rfl, [100, 119, 97], rfl, by decide⟩
    · exact ⟨_, rfl, [100, 119, 97, 114], rfl, by decide⟩
    · exact ⟨_, rfl, [119], rfl, by decide⟩
    · exact ⟨_, rfl, [100, 114], rfl, by decide⟩
    · exact ⟨_, rfl, [119, 97], rfl, by decide⟩
    · exact ⟨_, rfl, [114], rfl, by decide⟩
    · exact ⟨_, rfl, [97], rfl, by decide⟩
    · exact ⟨_, rfl, [100, 97], rfl, by decide⟩
    · exact ⟨_, rfl, [119, 114], rfl, by decide⟩
    · exact ⟨_, rfl, [100, 119, 114], rfl, by decide⟩
    · exact ⟨_, rfl, [97, 114], rfl, by decide⟩
    · exact ⟨_, rfl, [100, 97, 114], rfl, by decide⟩
    · exact ⟨_, rfl, [119, 97, 114], rfl, by decide⟩
  obtain ⟨bt, rfl, cs, ecs, hcs⟩ := hx
  walk_at "rd"
  refine ⟨_, ex, by decide, by decide, ?_⟩
  refine comp_go (bitC bt) (by decide) (fun P hP x hx acc hla kk hk => ?_) fun P hP => ?_
  · have hx : x ∈ [D.int 0, D.int 1, D.int 2, D.int 3] := hx
    simp only [List.mem_cons, List.not_mem_nil, or_false] at hx
    have step : ∀ (w : Int) (c : Nat), bitC bt x = (if bt / w % 2 = 1 then some (.str [c]) else none) → if decide (bt / w % 2 = 1) = true then 4 ≤ sizeLine ∧ acc.length < sizeLine ∧ kk (mset m P (.lst (acc ++ [.str [c]]))) else kk (mset m P (.lst acc)) := fun w c e => by
      rw [e] at hk
      by_cases h : bt / w % 2 = 1
      · rw [if_pos h] at hk
        rw [decide_eq_true h, if_pos rfl]
        exact ⟨by omega, hla, hk⟩
      · rw [if_neg h] at hk
        rw [decide_eq_false h, if_neg (by decide)]
        exact hk
    rcases hx with rfl | rfl | rfl | rfl
    · walk_at "rd"
      exact ⟨by omega, ⟨by decide, by decide⟩, by decide, step 1 100 rfl⟩
    · walk_at "rd"
      exact ⟨by omega, ⟨by decide, by decide⟩, by decide, step 2 119 rfl⟩
    · walk_at "rd"
      exact ⟨by omega, ⟨by decide, by decide⟩, by decide, step 4 97 rfl⟩
    · walk_at "rd"
      exact ⟨by omega, ⟨by decide, by decide⟩, by decide, step 8 114 rfl⟩
  · rw [mdel_mset hP, show rngD 0 (Int.toNat 4) = [D.int 0, D.int 1, D.int 2, D.int 3] from rfl, ecs]
    have hl := row_len (kinds_row hcs)
    refine ⟨_, mset_same, ⟨_, rfl⟩, _, _, rfl, hb, by rw [chars_length]; omega, fun zs hp p hm => ?_⟩
    walk_at "rd"
    obtain ⟨cs', rfl, hp2⟩ := perm_chars hp
    refine ⟨_, txts_chars cs', by rw [sum_ones, hp2.length_eq]; omega, ?_⟩
    rw [joinC_nil, flat_ones]
    exact rt_sub ((Sub.refl m).add hm) (k cs' (by rw [kinds_perm hp2]; exact hcs))
end DL

namespace DL
open PySem PySem.Spec PyProof.Rows L2
/-! one of some things, drawn -/
theorem ifF {c : Bool} {A B : Prop} (h : c = false) (k : B) : if c = true then A else B := by
  subst h
  exact k
theorem ifT {c : Bool} {A B : Prop} (h : c = true) (k : A) : if c = true then A else B := by
  subst h
  exact k
local macro_rules | `(tactic| walk_at "rd") => `(tactic| simp only [rSetU, rGetE, gGetE, rSetDef, gSetDef, rListVals, gInTx, rSlT, gSlT, rStarS, rListValsK, rLenSetI, rSortSetI, rSetOb, rGetOb, rMkX, rMkX0, rXv, rIsV, rIsVE, rPutOb, gSortDI, gSortLI, gAddO, gInKD, rDct0K, rSetK, rInK, rGetK, gGetK, gDictP, rBack, rRngB, gSum, rLam, rGive, rDeed, rRaise0, rForK, rStar, rDcT, rbPutT, gMaxP, rSlO, gSlO, rPar, rMinLen, gMinL, rInD, rSetT, rDct0T, rDct1T, rDc, rLcG, rbClause, rbEmit, rZip2, rZip3, rCallO, gLenD, gLenO, gMaxL, gSortL, gSortLO, rGetT, gGetT, gSortD, gSortDO, gKeysT, gKeysTO, rAsgL, gEqS, gInTN, rFld, rSetF, rMeth, rMake, rFrzI, rProp, rIsC, rRev, rAllK, rLcK, rLcKO, ew0, ew1, ew2, ew3, ew4, ew5, ew6, rRaise, rTry, xCls, enO, setO, rXf, rIsX, Option.elim_some, Option.elim_none, rSeq, rSet, rAsg, rRet, rRetN, rDrop, rIf, rSkip, rVar, rC, rOp, rUn, rTst, rTru, rNot, rAnd, rOr, rAndV, rOrV, rNotV, rIfE, rChain, rCons, rNil, rTup, rLst, rLstO, rCB, rLM, rSM, rSl, rPart, rNoPart, rAll, rRng1, rRng2, rFor, rCall, rAug, rSetIx, rLenSet, rFmt, rJoined, rJs, rLc, rLcO, rFrz, setAll, rYes, rNever, wipeN, nvs, enD, turnD, gNe, gLt, gLe, gGt, gGe, gIn, gNotIn, gIs, gIsNot, gMod, gFdiv, gPow, gAppend, gPop, gPopAt, gClear, gReverse, gExtend, gJoin, gSplit, nm_T, tp_T, at_0, at_1, at_2, at_3, at_4, at_5, at_6, at_7, ix_0, ix_1, ix_2, ix_3, ix_4, List.map_cons, List.map_nil, List.length_cons, List.length_nil, List.replicate, List.cons_append, List.nil_append, List.getElem?_cons_zero, List.getElem?_cons_succ, List.set_cons_zero, List.set_cons_succ, Option.some.injEq, exists_eq_left', exists_eq_left, exists_and_left, D.int.injEq, D.str.injEq, D.bl.injEq, D.ref.injEq, D.tup.injEq, D.lst.injEq, MO.lst.injEq, List.cons.injEq, and_true, true_and, if_true, if_false, Bool.false_eq_true, Nat.reduceSub, Nat.reduceAdd, reduceIte, reduceCtorEq, mset_same, mset_mset, Bool.not_true, Bool.not_false, imp_self, implies_true, not_false_eq_true, forall_const, ev0, ev1, ev2, ev3, ev4, ev5, ev6, ev7, ev8, ev9, ev10, ev11, ev12, ev13, ev14, ev15, ev16, ev17, ev18, ev19, ev20, ev21, ev22, ev23, ev24, ev25, ev26, ev27, ev28, ev29, ev30, ev31, ev32, ev33, ev34, ev35, ev36, ev37, ev38, ev39, ev40, ev41, ev42, ev43, ev44, ev45, ev46, ev47, ev48, ev49, ev50, ev51, ev52, ev53, ev54, ev55, ev56, ev57, ev58, ev59, ev60, ev61, ev62, ev63, ev64, ev65, ev66, ev67, ev68, ev69, ev70, ev71, ev72, ev73, ev74, ev75, ev76, ev77, ev78, ev79, ev80, ev81, ev82, ev83, ev84, ev85, ev86, ev87, ev88, ev89, ev90, ev91, ev92, ev93, ev94, ev95, ev96, ev97, ev98, ev99, ev100, ev101, ev102, ev103, ev104, ev105, ev106, ev107, ev108, ev109, ev110, ev111, ev112, ev113, ev114, ev115, ev116, ev117, ev118, ev119, ev120, ev121, ev122, ev123, ev124, ev125, ev126, ev127, ev128, ev129, ev130, ev131, ev132, ev133, ev134, ev135, ev136, ev137, ev138, ev139, ev140, ev141, ev142, ev143, ev144, ev145, ev146, ev147, ev148, ev149, ev150, ev151, ev152, ev153, ev154, ev155, ev156, ev157, ev158, ev159, ev160, ev161, ev162])
local macro_rules | `(tactic| walk_at "rq") => `(tactic| simp only [rSetU, rGetE, gGetE, rSetDef, gSetDef, rListVals, gInTx, rSlT, gSlT, rStarS, rListValsK, rLenSetI, rSortSetI, rSetOb, rGetOb, rMkX, rMkX0, rXv, rIsV, rIsVE, rPutOb, gSortDI, gSortLI, gAddO, gInKD, rDct0K, rSetK, rInK, rGetK, gGetK, gDictP, rBack, rRngB, gSum, rLam, rGive, rDeed, rRaise0, rForK, rStar, rDcT, rbPutT, gMaxP, rSlO, gSlO, rPar, rMinLen, gMinL, rInD, rSetT, rDct0T, rDct1T, rDc, rLcG, rbClause, rbEmit, rZip2, rZip3, rCallO, gLenD, gLenO, gMaxL, gSortL, gSortLO, rGetT, gGetT, gSortD, gSortDO, gKeysT, gKeysTO, rAsgL, gEqS, gInTN, rFld, rSetF, rMeth, rMake, rFrzI, rProp, rIsC, rRev, rAllK, rLcK, rLcKO, ew0, ew1, ew2, ew3, ew4, ew5, ew6, rRaise, rTry, xCls, enO, setO, rXf, rIsX, Option.elim_some, Option.elim_none, rSeq, rSet, rAsg, rRet, rRetN, rDrop, rIf, rSkip, rVar, rC, rOp, rUn, rTst, rTru, rNot, rAnd, rOr, rAndV, rOrV, rNotV, rIfE, rChain, rCons, rNil, rTup, rLst, rLstO, rCB, rLM, rSM, rSl, rPart, rNoPart, rAll, rRng1, rRng2, rFor, rCall, rAug, rSetIx, rLenSet, rFmt, rJoined, rJs, rLc, rLcO, rFrz, setAll, rYes, rNever, wipeN, nvs, enD, turnD, gNe, gLt, gLe, gGt, gGe, gIn, gNotIn, gIs, gIsNot, gMod, gFdiv, gPow, gAppend, gPop, gPopAt, gClear, gReverse, gExtend, gJoin, gSplit, nm_T, tp_T, at_0, at_1, at_2, at_3, at_4, at_5, at_6, at_7, ix_0, ix_1, ix_2, ix_3, ix_4, List.map_cons, List.map_nil, List.length_cons, List.length_nil, List.replicate, List.cons_append, List.nil_append, List.getElem?_cons_zero, List.getElem?_cons_succ, List.set_cons_zero, List.set_cons_succ, Option.some.injEq, exists_eq_left', exists_eq_left, exists_and_left, D.int.injEq, D.str.injEq, D.bl.injEq, D.ref.injEq, D.tup.injEq, D.lst.injEq, MO.lst.injEq, List.cons.injEq, and_true, true_and, if_true, if_false, Bool.false_eq_true, Nat.reduceSub, Nat.reduceAdd, reduceIte, reduceCtorEq, mset_same, mset_mset, Bool.not_true, Bool.not_false, imp_self, implies_true, not_false_eq_true, forall_const, ev0, ev1, ev2, ev3, ev4, ev5, ev6, ev7, ev8, ev9, ev10, ev11, ev12, ev13, ev14, ev15, ev16, ev17, ev18, ev19, ev20, ev21, ev22, ev23, ev24, ev25, ev26, ev27, ev28, ev29, ev30, ev31, ev32, ev33, ev34, ev35, ev36, ev37, ev38, ev39, ev40, ev41, ev42, ev43, ev44, ev45, ev46, ev47, ev48, ev49, ev50, ev51, ev52, ev53, ev54, ev55, ev56, ev57, ev58, ev59, ev60, ev61, ev62, ev63, ev64, ev65, ev66, ev67, ev68, ev69, ev70, ev71, ev72, ev73, ev74, ev75, ev76, ev77, ev78, ev79, ev80, ev81, ev82, ev83, ev84, ev85, ev86, ev87, ev88, ev89, ev90, ev91, ev92, ev93, ev94, ev95, ev96, ev97, ev98, ev99, ev100, ev101, ev102, ev103, ev104, ev105, ev106, ev107, ev108, ev109, ev110, ev111, ev112, ev113, ev114, ev115, ev116, ev117, ev118, ev119, ev120, ev121, ev122, ev123, ev124, ev125, ev126, ev127, ev128, ev129, ev130, ev131, ev132, ev133, ev134, ev135, ev136, ev137, ev138, ev139, ev140, ev141, ev142, ev143, ev144, ev145, ev146, ev147, ev148, ev149, ev150, ev151, ev152, ev153, ev154, ev155, ev156, ev157, ev158, ev159, ev160, ev161, ev162, Int.reduceEq, Int.reduceNe, Int.reduceLT, Int.reduceLE, Int.reduceNeg, decide_true, decide_false])
def N__law_pick : List Str := ["_law_bag_here", "_law_items"]
def rd__law_pick : RS := rRet (rOp gIx (rVar 1) (rCall sp__law_draw (rCons (rVar 0) (rCons (rCB gLen (rCons (rVar 1) (rNil))) (rNil)))))

def sp__law_pick : SpD := fun ds m q _ => ∃ b x items, ds = [.ref b, x] ∧ m b = some (.inv Bag) ∧ lstOf x m = some items ∧ 0 < items.length ∧ items.length < 1000000 ∧ ∀ y ∈ items, q y m
theorem rl__law_pick : ∀ ds m q xf, sp__law_pick ds m q xf → ds.length = ["_law_bag_here", "_law_items"].length := fun ds m q xf ⟨b, s, _, e, _⟩ => by rw [e]; rfl
theorem rp__law_pick : ∀ ds m q xf, sp__law_pick ds m q xf → rd__law_pick (xdD xf) (enD q) (nvs N__law_pick ds) m := by
  rintro ds m q xf ⟨b, x, items, rfl, hb, hx, h0, h1, k⟩
  unfold rd__law_pick N__law_pick
  cases x with
  | lst L =>
    cases hx
    walk_at "rd"
    refine ⟨_, _, rfl, hb, by omega, by omega, fun r r0 r1 => ?_⟩
    walk_at "rd"
    obtain ⟨y, hy, ey⟩ := atI_mem r0 r1
    exact ⟨y, ey, rt_same (k y hy)⟩
  | ref p =>
    have hx : moLst (m p) = some items := hx
    walk_at "rd"
    refine ⟨items, hx, _, _, rfl, hb, by omega, by omega, fun r r0 r1 => ?_⟩
    walk_at "rd"
    obtain ⟨y, hy, ey⟩ := atI_mem r0 r1
    exact ⟨items, hx, y, ey, rt_same (k y hy)⟩
  | _ => cases hx
end DL

namespace DL
open PySem PySem.Spec PyProof.Rows L2
/-! k14: the law's own words -/
local macro_rules | `(tactic| walk_at "rd") => `(tactic| simp only [rSetU, rGetE, gGetE, rSetDef, gSetDef, rListVals, gInTx, rSlT, gSlT, rStarS, rListValsK, rLenSetI, rSortSetI, rSetOb, rGetOb, rMkX, rMkX0, rXv, rIsV, rIsVE, rPutOb, gSortDI, gSortLI, gAddO, gInKD, rDct0K, rSetK, rInK, rGetK, gGetK, gDictP, rBack, rRngB, gSum, rLam, rGive, rDeed, rRaise0, rForK, rStar, rDcT, rbPutT, gMaxP, rSlO, gSlO, rPar, rMinLen, gMinL, rInD, rSetT, rDct0T, rDct1T, rDc, rLcG, rbClause, rbEmit, rZip2, rZip3, rCallO, gLenD, gLenO, gMaxL, gSortL, gSortLO, rGetT, gGetT, gSortD, gSortDO, gKeysT, gKeysTO, rAsgL, gEqS, gInTN, rFld, rSetF, rMeth, rMake, rFrzI, rProp, rIsC, rRev, rAllK, rLcK, rLcKO, ew0, ew1, ew2, ew3, ew4, ew5, ew6, rRaise, rTry, xCls, enO, setO, rXf, rIsX, Option.elim_some, Option.elim_none, rSeq, rSet, rAsg, rRet, rRetN, rDrop, rIf, rSkip, rVar, rC, rOp, rUn, rTst, rTru, rNot, rAnd, rOr, rAndV, rOrV, rNotV, rIfE, rChain, rCons, rNil, rTup, rLst, rLstO, rCB, rLM, rSM, rSl, rPart, rNoPart, rAll, rRng1, rRng2, rFor, rCall, rAug, rSetIx, rLenSet, rFmt, rJoined, rJs, rLc, rLcO, rFrz, setAll, rYes, rNever, wipeN, nvs, enD, turnD, gNe, gLt, gLe, gGt, gGe, gIn, gNotIn, gIs, gIsNot, gMod, gFdiv, gPow, gAppend, gPop, gPopAt, gClear, gReverse, gExtend, gJoin, gSplit, nm_T, tp_T, at_0, at_1, at_2, at_3, at_4, at_5, at_6, at_7, ix_0, ix_1, ix_2, ix_3, ix_4, List.map_cons, List.map_nil, List.length_cons, List.length_nil, List.replicate, List.cons_append, List.nil_append, List.getElem?_cons_zero, List.getElem?_cons_succ, List.set_cons_zero, List.set_cons_succ, Option.some.injEq, exists_eq_left', exists_eq_left, exists_and_left, D.int.injEq, D.str.injEq, D.bl.injEq, D.ref.injEq, D.tup.injEq, D.lst.injEq, MO.lst.injEq, List.cons.injEq, and_true, true_and, if_true, if_false, Bool.false_eq_true, Nat.reduceSub, Nat.reduceAdd, reduceIte, reduceCtorEq, mset_same, mset_mset, Bool.not_true, Bool.not_false, imp_self, implies_true, not_false_eq_true, forall_const, ev0, ev1, ev2, ev3, ev4, ev5, ev6, ev7, ev8, ev9, ev10, ev11, ev12, ev13, ev14, ev15, ev16, ev17, ev18, ev19, ev20, ev21, ev22, ev23, ev24, ev25, ev26, ev27, ev28, ev29, ev30, ev31, ev32, ev33, ev34, ev35, ev36, ev37, ev38, ev39, ev40, ev41, ev42, ev43, ev44, ev45, ev46, ev47, ev48, ev49, ev50, ev51, ev52, ev53, ev54, ev55, ev56, ev57, ev58, ev59, ev60, ev61, ev62, ev63, ev64, ev65, ev66, ev67, ev68, ev69, ev70, ev71, ev72, ev73, ev74, ev75, ev76, ev77, ev78, ev79, ev80, ev81, ev82, ev83, ev84, ev85, ev86, ev87, ev88, ev89, ev90, ev91, ev92, ev93, ev94, ev95, ev96, ev97, ev98, ev99, ev100, ev101, ev102, ev103, ev104, ev105, ev106, ev107, ev108, ev109, ev110, ev111, ev112, ev113, ev114, ev115, ev116, ev117, ev118, ev119, ev120, ev121, ev122, ev123, ev124, ev125, ev126, ev127, ev128, ev129, ev130, ev131, ev132, ev133, ev134, ev135, ev136, ev137, ev138, ev139, ev140, ev141, ev142, ev143, ev144, ev145, ev146, ev147, ev148, ev149, ev150, ev151, ev152, ev153, ev154, ev155, ev156, ev157, ev158, ev159, ev160, ev161, ev162])
local macro_rules | `(tactic| walk_at "rq") => `(tactic| simp only [rSetU, rGetE, gGetE, rSetDef, gSetDef, rListVals, gInTx, rSlT, gSlT, rStarS, rListValsK, rLenSetI, rSortSetI, rSetOb, rGetOb, rMkX, rMkX0, rXv, rIsV, rIsVE, rPutOb, gSortDI, gSortLI, gAddO, gInKD, rDct0K, rSetK, rInK, rGetK, gGetK, gDictP, rBack, rRngB, gSum, rLam, rGive, rDeed, rRaise0, rForK, rStar, rDcT, rbPutT, gMaxP, rSlO, gSlO, rPar, rMinLen, gMinL, rInD, rSetT, rDct0T, rDct1T, rDc, rLcG, rbClause, rbEmit, rZip2, rZip3, rCallO, gLenD, gLenO, gMaxL, gSortL, gSortLO, rGetT, gGetT, gSortD, gSortDO, gKeysT, gKeysTO, rAsgL, gEqS, gInTN, rFld, rSetF, rMeth, rMake, rFrzI, rProp, rIsC, rRev, rAllK, rLcK, rLcKO, ew0, ew1, ew2, ew3, ew4, ew5, ew6, rRaise, rTry, xCls, enO, setO, rXf, rIsX, Option.elim_some, Option.elim_none, rSeq, rSet, rAsg, rRet, rRetN, rDrop, rIf, rSkip, rVar, rC, rOp, rUn, rTst, rTru, rNot, rAnd, rOr, rAndV, rOrV, rNotV, rIfE, rChain, rCons, rNil, rTup, rLst, rLstO, rCB, rLM, rSM, rSl, rPart, rNoPart, rAll, rRng1, rRng2, rFor, rCall, rAug, rSetIx, rLenSet, rFmt, rJoined, rJs, rLc, rLcO, rFrz, setAll, rYes, rNever, wipeN, nvs, enD, turnD, gNe, gLt, gLe, gGt, gGe, gIn, gNotIn, gIs, gIsNot, gMod, gFdiv, gPow, gAppend, gPop, gPopAt, gClear, gReverse, gExtend, gJoin, gSplit, nm_T, tp_T, at_0, at_1, at_2, at_3, at_4, at_5, at_6, at_7, ix_0, ix_1, ix_2, ix_3, ix_4, List.map_cons, List.map_nil, List.length_cons, List.length_nil, List.replicate, List.cons_append, List.nil_append, List.getElem?_cons_zero, List.getElem?_cons_succ, List.set_cons_zero, List.set_cons_succ, Option.some.injEq, exists_eq_left', exists_eq_left, exists_and_left, D.int.injEq, D.str.injEq, D.bl.injEq, D.ref.injEq, D.tup.injEq, D.lst.injEq, MO.lst.injEq, List.cons.injEq, and_true, true_and, if_true, if_false, Bool.false_eq_true, Nat.reduceSub, Nat.reduceAdd, reduceIte, reduceCtorEq, mset_same, mset_mset, Bool.not_true, Bool.not_false, imp_self, implies_true, not_false_eq_true, forall_const, ev0, ev1, ev2, ev3, ev4, ev5, ev6, ev7, ev8, ev9, ev10, ev11, ev12, ev13, ev14, ev15, ev16, ev17, ev18, ev19, ev20, ev21, ev22, ev23, ev24, ev25, ev26, ev27, ev28, ev29, ev30, ev31, ev32, ev33, ev34, ev35, ev36, ev37, ev38, ev39, ev40, ev41, ev42, ev43, ev44, ev45, ev46, ev47, ev48, ev49, ev50, ev51, ev52, ev53, ev54, ev55, ev56, ev57, ev58, ev59, ev60, ev61, ev62, ev63, ev64, ev65, ev66, ev67, ev68, ev69, ev70, ev71, ev72, ev73, ev74, ev75, ev76, ev77, ev78, ev79, ev80, ev81, ev82, ev83, ev84, ev85, ev86, ev87, ev88, ev89, ev90, ev91, ev92, ev93, ev94, ev95, ev96, ev97, ev98, ev99, ev100, ev101, ev102, ev103, ev104, ev105, ev106, ev107, ev108, ev109, ev110, ev111, ev112, ev113, ev114, ev115, ev116, ev117, ev118, ev119, ev120, ev121, ev122, ev123, ev124, ev125, ev126, ev127, ev128, ev129, ev130, ev131, ev132, ev133, ev134, ev135, ev136, ev137, ev138, ev139, ev140, ev141, ev142, ev143, ev144, ev145, ev146, ev147, ev148, ev149, ev150, ev151, ev152, ev153, ev154, ev155, ev156, ev157, ev158, ev159, ev160, ev161, ev162, Int.reduceEq, Int.reduceNe, Int.reduceLT, Int.reduceLE, Int.reduceNeg, decide_true, decide_false])
def N__law_some_kinds : List Str := ["_law_bag_here", "_law_choice"]
def rd__law_some_kinds : RS := rSeq (rSet (rCall sp__law_draw (rCons (rVar 0) (rCons (rC (.int 4)) (rNil)))) 1)
  (rSeq (rIf (rTst (rOp gEq (rVar 1) (rC (.int 0)))) (rRet (rC (.str [100, 119, 97, 114]))) (rSkip))
  (rSeq (rIf (rTst (rOp gEq (rVar 1) (rC (.int 1)))) (rRet (rOp gIx (rC (.str [100, 119, 97, 114])) (rCall sp__law_draw (rCons (rVar 0) (rCons (rC (.int 4)) (rNil)))))) (rSkip))
  (rRet (rCall sp__law_kinds (rCons (rVar 0) (rNil))))))

def sp__law_some_kinds : SpD := fun ds m q _ => ∃ b, ds = [.ref b] ∧ m b = some (.inv Bag) ∧ ∀ ks, isKindsC ks = true → q (.str ks) m
theorem rl__law_some_kinds : ∀ ds m q xf, sp__law_some_kinds ds m q xf → ds.length = ["_law_bag_here"].length := fun ds m q xf ⟨d, e, _⟩ => by rw [e]; rfl
theorem rp__law_some_kinds : ∀ ds m q xf, sp__law_some_kinds ds m q xf → rd__law_some_kinds (xdD xf) (enD q) (nvs N__law_some_kinds ds) m := by
  rintro ds m q xf ⟨b, rfl, hb, k⟩
  unfold rd__law_some_kinds N__law_some_kinds
  walk_at "rd"
  refine ⟨_, _, rfl, hb, by decide, by decide, fun r h0 h1 => ?_⟩
  walk_at "rd"
  refine ite2 (fun _ => rt_same (k _ (by decide))) fun _ => ite2 (fun _ => ?_) fun _ => ?_
  · refine ⟨_, _, rfl, hb, by decide, by decide, fun r2 g0 g1 => ?_⟩
    walk_at "rd"
    obtain ⟨c, hc, ec⟩ := atI_mem (L := [100, 119, 97, 114]) g0 g1
    refine ⟨by rw [sizeLine_eq]; decide, c, ec, rt_same (k _ ?_)⟩
    simp at hc
    rcases hc with rfl | rfl | rfl | rfl <;> decide
  · exact ⟨_, rfl, hb, fun ks hk => rt_same (k ks hk)⟩
theorem cutLo {α : Type} (xs : List α) (k : Nat) : cut xs none (some (k : Int)) = xs.take k := by
  unfold cut
  have : HT.sIx xs.length xs.length (some (k : Int)) = min k xs.length := by
    have := HT.clip_eq (k : Int) xs.length xs.length
    rw [if_neg (by omega)] at this
    omega
  rw [this, HT.sIx_none]
  simp
theorem cut_hi {α : Type} (xs : List α) (k : Nat) : cut xs (some (k : Int)) none = xs.drop k := by
  unfold cut
  have : HT.sIx xs.length 0 (some (k : Int)) = min k xs.length := by
    have := HT.clip_eq (k : Int) xs.length 0
    rw [if_neg (by omega)] at this
    omega
  rw [this, HT.sIx_none]
  by_cases h : k ≤ xs.length
  · rw [Nat.min_eq_left h, List.take_of_length_le (by rw [List.length_drop]; omega)]
  · rw [Nat.min_eq_right (by omega), List.drop_eq_nil_of_le (Nat.le_refl _), List.drop_eq_nil_of_le (by omega)]
    simp
theorem reps_one (k c : Nat) : reps (k : Int) [c] = List.replicate k c := by
  show (List.replicate (k : Int).toNat [c]).flatten = _
  rw [Int.toNat_natCast]
  induction k with
  | zero => rfl
  | succ n ih => rw [List.replicate_succ, List.flatten_cons, ih, List.replicate_succ]; rfl
theorem no_row {a b c : List Nat} {x : Nat} (hx : x ∈ b) (h : isL x = false) : isRowC (a ++ b ++ c) = false := by
  unfold isRowC
  rw [Bool.and_eq_false_iff]
  right
  rw [List.all_eq_false]
  exact ⟨x, by simp [hx], by rw [h]; decide⟩
theorem no_kin {cs : List Nat} (h : isRowC cs = false) : isKindsC cs = false := by
  unfold isKindsC
  rw [h]
  rfl
/-- a thing that may stand anywhere, any time -/
structure Wrg (x : D) : Prop where
  th : thD 50 x = true
  ty : ∀ m, ∃ a, tyD x m = some a
  sh : ∀ cs, x = .str cs → cs.length ≤ 16000000
theorem Wrg.any {x : D} (h : Wrg x) (m : Mem) : Anyv x m := ⟨h.ty m, fun cs e => by
  have := h.sh cs e
  have hz : sizeLine = 16777216 := sizeLine_eq
  omega⟩
theorem wrg_str {cs : List Nat} (h : cs.length ≤ 16000000) : Wrg (.str cs) := ⟨rfl, fun _ => ⟨_, rfl⟩, fun c e => by cases e; exact h⟩
def N__law_wrong_row : List Str := ["_law_bag_here", "_law_row_here", "_law_spot"]
def rd__law_wrong_row : RS := rSeq (rIf (rTst (rOp gEq (rCall sp__law_draw (rCons (rVar 0) (rCons (rC (.int 3)) (rNil)))) (rC (.int 0)))) (rRet (rOp gIx (rLst (rCons (rC .non) (rCons (rC (.int 4)) (rCons (rC (.bl true)) (rCons (rLst (rCons (rC (.str [100])) (rNil))) (rCons (rTup (rCons (rC (.str [100])) (rCons (rC (.str [114])) (rNil)))) (rCons (rOp gMul (rC (.str [100])) (rC (.int 2001))) (rCons (rC (.dct false [])) (rNil))))))))) (rCall sp__law_draw (rCons (rVar 0) (rCons (rC (.int 7)) (rNil)))))) (rSkip))
  (rSeq (rSet (rCall sp__law_row (rCons (rVar 0) (rCons (rC (.int 9)) (rNil)))) 1)
  (rSeq (rSet (rCall sp__law_draw (rCons (rVar 0) (rCons (rOp gAdd (rCB gLen (rCons (rVar 1) (rNil))) (rC (.int 1))) (rNil)))) 2)
  (rRet (rOp gAdd (rOp gAdd (rSl (rVar 1) (rNoPart) (rPart (rVar 2))) (rCall sp__law_pick (rCons (rVar 0) (rCons (rLst (rCons (rC (.str [120])) (rCons (rC (.str [68])) (rCons (rC (.str [32])) (rCons (rC (.str [49])) (rCons (rC (.str [45])) (rCons (rC (.str [101])) (rCons (rC (.str [113])) (rCons (rC (.str [10])) (rNil)))))))))) (rNil))))) (rSl (rVar 1) (rPart (rVar 2)) (rNoPart))))))

def sp__law_wrong_row : SpD := fun ds m q _ => ∃ b, ds = [.ref b] ∧ m b = some (.inv Bag) ∧ ∀ x, Wrg x → isRowD x = false → q x m
theorem rl__law_wrong_row : ∀ ds m q xf, sp__law_wrong_row ds m q xf → ds.length = ["_law_bag_here"].length := fun ds m q xf ⟨_, e, _⟩ => by rw [e]; rfl
theorem rp__law_wrong_row : ∀ ds m q xf, sp__law_wrong_row ds m q xf → rd__law_wrong_row (xdD xf) (enD q) (nvs N__law_wrong_row ds) m := by
  rintro ds m q xf ⟨b, rfl, hb, k⟩
  have hz : sizeLine = 16777216 := sizeLine_eq
  unfold rd__law_wrong_row N__law_wrong_row
  walk_at "rd"
  refine ⟨b, 3, rfl, hb, by decide, by decide, fun r r0 r1 => ?_⟩
  walk_at "rd"
  refine ite2 (fun _ => ?_) fun _ => ?_
  · refine ⟨by omega, by omega, ⟨by omega, by omega, by omega⟩, by omega, b, 7, rfl, hb, by decide, by decide, fun r2 g0 g1 => ?_⟩
    obtain ⟨x, hx, ex⟩ := atI_mem (L := [D.non, D.int 4, D.bl true, D.lst [D.str [100]], D.tup [D.str [100], D.str [114]], D.str (reps 2001 [100]), D.dct false []]) g0 g1
    walk_at "rd"
    refine ⟨x, ex, rt_same (k x ?_ ?_)⟩
    · simp only [List.mem_cons, List.not_mem_nil, or_false] at hx
      rcases hx with rfl | rfl | rfl | rfl | rfl | rfl | rfl
      rotate_left 5
      · refine wrg_str ?_
        rw [show (2001 : Int) = ((2001 : Nat) : Int) by rfl, reps_one, List.length_replicate]
        omega
      all_goals exact ⟨rfl, fun _ => ⟨_, rfl⟩, fun cs e => by cases e⟩
    · simp only [List.mem_cons, List.not_mem_nil, or_false] at hx
      rcases hx with rfl | rfl | rfl | rfl | rfl | rfl | rfl
      rotate_left 5
      · show isRowC (reps 2001 [100]) = false
        rw [show (2001 : Int) = ((2001 : Nat) : Int) by rfl, reps_one]
        unfold isRowC
        rw [List.length_replicate]
        rfl
      all_goals rfl
  · refine ⟨b, 9, rfl, hb, by omega, fun rs hrs hl => ?_⟩
    walk_at "rd"
    refine ⟨by omega, b, _, rfl, hb, by omega, by omega, fun i0 i00 i01 => ?_⟩
    obtain ⟨i, rfl, hi⟩ : ∃ i : Nat, i0 = (i : Int) ∧ i ≤ rs.length := ⟨i0.toNat, by omega, by omega⟩
    walk_at "rd"
    have hl9 : rs.length ≤ 9 := by omega
    rw [cutLo, cut_hi]
    refine ⟨by omega, by omega, b, _, _, rfl, hb, rfl, by decide, by decide, fun y hy => ?_⟩
    obtain ⟨c, rfl, hc⟩ : ∃ c, y = .str [c] ∧ isL c = false := by
      simp only [List.mem_cons, List.not_mem_nil, or_false] at hy
      rcases hy with rfl | rfl | rfl | rfl | rfl | rfl | rfl | rfl
      all_goals exact ⟨_, rfl, by decide⟩
    walk_at "rd"
    refine ⟨by rw [List.length_take]; omega, by omega, by rw [List.length_append, List.length_take, List.length_drop]; simp only [List.length_cons, List.length_nil]; omega, rt_same (k _ (wrg_str ?_) ?_)⟩
    · rw [List.length_append, List.length_append, List.length_take, List.length_drop]
      simp only [List.length_cons, List.length_nil]
      omega
    · exact no_row (List.mem_singleton.mpr rfl) hc
def N__law_wrong_kinds : List Str := ["_law_bag_here", "_law_kinds_here", "_law_spot"]
def rd__law_wrong_kinds : RS := rSeq (rIf (rTst (rOp gEq (rCall sp__law_draw (rCons (rVar 0) (rCons (rC (.int 3)) (rNil)))) (rC (.int 0)))) (rRet (rOp gIx (rLst (rCons (rC (.str [])) (rCons (rC .non) (rCons (rC (.int 3)) (rCons (rC (.bl true)) (rCons (rLst (rCons (rC (.str [100])) (rNil))) (rCons (rC (.str [100, 119, 97, 114, 120])) (rCons (rC (.str [100, 100])) (rNil))))))))) (rCall sp__law_draw (rCons (rVar 0) (rCons (rC (.int 7)) (rNil)))))) (rSkip))
  (rSeq (rSet (rCall sp__law_some_kinds (rCons (rVar 0) (rNil))) 1)
  (rSeq (rSet (rCall sp__law_draw (rCons (rVar 0) (rCons (rOp gAdd (rCB gLen (rCons (rVar 1) (rNil))) (rC (.int 1))) (rNil)))) 2)
  (rRet (rOp gAdd (rOp gAdd (rSl (rVar 1) (rNoPart) (rPart (rVar 2))) (rCall sp__law_pick (rCons (rVar 0) (rCons (rLst (rCons (rC (.str [120])) (rCons (rC (.str [68])) (rCons (rC (.str [32])) (rCons (rOp gIx (rVar 1) (rC (.int 0))) (rCons (rC (.str [49])) (rCons (rC (.str [113])) (rNil)))))))) (rNil))))) (rSl (rVar 1) (rPart (rVar 2)) (rNoPart))))))

def sp__law_wrong_kinds : SpD := fun ds m q _ => ∃ b, ds = [.ref b] ∧ m b = some (.inv Bag) ∧ ∀ x, Wrg x → isKindsD x = false → q x m
theorem rl__law_wrong_kinds : ∀ ds m q xf, sp__law_wrong_kinds ds m q xf → ds.length = ["_law_bag_here"].length := fun ds m q xf ⟨_, e, _⟩ => by rw [e]; rfl
theorem rp__law_wrong_kinds : ∀ ds m q xf, sp__law_wrong_kinds ds m q xf → rd__law_wrong_kinds (xdD xf) (enD q) (nvs N__law_wrong_kinds ds) m := by
  rintro ds m q xf ⟨b, rfl, hb, k⟩
  have hz : sizeLine = 16777216 := sizeLine_eq
  unfold rd__law_wrong_kinds N__law_wrong_kinds
  walk_at "rd"
  refine ⟨b, 3, rfl, hb, by decide, by decide, fun r r0 r1 => ?_⟩
  walk_at "rd"
  refine ite2 (fun _ => ?_) fun _ => ?_
  · refine ⟨by omega, by omega, b, 7, rfl, hb, by decide, by decide, fun r2 g0 g1 => ?_⟩
    obtain ⟨x, hx, ex⟩ := atI_mem (L := [D.str [], D.non, D.int 3, D.bl true, D.lst [D.str [100]], D.str [100, 119, 97, 114, 120], D.str [100, 100]]) g0 g1
    walk_at "rd"
    refine ⟨x, ex, rt_same (k x ?_ ?_)⟩
    · simp only [List.mem_cons, List.not_mem_nil, or_false] at hx
      rcases hx with rfl | rfl | rfl | rfl | rfl | rfl | rfl
      all_goals exact ⟨rfl, fun _ => ⟨_, rfl⟩, fun cs e => by cases e <;> decide⟩
    · simp only [List.mem_cons, List.not_mem_nil, or_false] at hx
      rcases hx with rfl | rfl | rfl | rfl | rfl | rfl | rfl
      all_goals decide
  · refine ⟨b, rfl, hb, fun ks hks => ?_⟩
    have hk := hks
    unfold isKindsC at hk
    simp only [Bool.and_eq_true, decide_eq_true_eq] at hk
    obtain ⟨⟨⟨hkr, hk1⟩, hk4⟩, hkn⟩ := hk
    walk_at "rd"
    refine ⟨by omega, b, _, rfl, hb, by omega, by omega, fun i0 i00 i01 => ?_⟩
    obtain ⟨i, rfl, hi⟩ : ∃ i : Nat, i0 = (i : Int) ∧ i ≤ ks.length := ⟨i0.toNat, by omega, by omega⟩
    walk_at "rd"
    rw [cutLo, cut_hi]
    obtain ⟨k0, kr, rfl⟩ : ∃ k0 kr, ks = k0 :: kr := by
      cases ks with
      | nil => simp at hk1
      | cons a l => exact ⟨a, l, rfl⟩
    refine ⟨by omega, by omega, k0, by rw [at_0], by omega, b, _, _, rfl, hb, rfl, by simp, by simp, fun y hy => ?_⟩
    obtain ⟨c, rfl, hc⟩ : ∃ c, y = .str [c] ∧ (isL c = false ∨ c = k0) := by
      simp only [List.mem_cons, List.not_mem_nil, or_false] at hy
      rcases hy with rfl | rfl | rfl | rfl | rfl | rfl
      rotate_left 3
      · exact ⟨_, rfl, .inr rfl⟩
      all_goals exact ⟨_, rfl, .inl (by decide)⟩
    walk_at "rd"
    refine ⟨by rw [List.length_take]; simp only [List.length_cons, List.length_nil] at hk4 ⊢; omega, by simp only [List.length_cons, List.length_nil] at hk4 ⊢; omega, by rw [List.length_append, List.length_take, List.length_drop]; simp only [List.length_cons, List.length_nil] at hk4 ⊢; omega, rt_same (k _ (wrg_str ?_) ?_)⟩
    · rw [List.length_append, List.length_append, List.length_take, List.length_drop]
      simp only [List.length_cons, List.length_nil] at hk4 ⊢
      omega
    · rcases hc with hc | rfl
      · exact no_kin (no_row (List.mem_singleton.mpr rfl) hc)
      · show isKindsC _ = false
        unfold isKindsC
        rw [Bool.and_eq_false_iff]
        right
        rw [decide_eq_false_iff_not]
        cases i with
        | zero => simp
        | succ j => simp
/-! ### the lambdas -/
def N_l0 : List Str := ["_law_todo"]
def rd_l0 : RE := rCall sp_units_of (rCons (rOp gIx (rVar 0) (rC (.int 0))) (rCons (rOp gIx (rVar 0) (rC (.int 1))) (rNil)))

def N_l1 : List Str := ["_law_pair"]
def rd_l1 : RE := rCall sp_longest_of (rCons (rOp gIx (rVar 0) (rC (.int 0))) (rCons (rOp gIx (rVar 0) (rC (.int 1))) (rNil)))

def N_l2 : List Str := ["_law_todo"]
def rd_l2 : RE := rCall sp_places_of (rCons (rOp gIx (rVar 0) (rC (.int 0))) (rCons (rOp gIx (rVar 0) (rC (.int 1))) (rNil)))

def N_l3 : List Str := ["_law_todo"]
def rd_l3 : RE := rCall sp_as_text (rCons (rOp gIx (rVar 0) (rC (.int 0))) (rNil))

def N_l4 : List Str := ["_law_todo"]
def rd_l4 : RE := rCall sp_stretches (rCons (rOp gIx (rVar 0) (rC (.int 0))) (rNil))

def slD (cs : List (Option D)) : SpD := fun ds m q xf => ∃ x y, ds = [.tup [x, y]] ∧ cs = [] ∧ rowKin x y m xf fun _ _ => ∀ d, q d m
def slS (cs : List (Option D)) : SpD := fun ds m _ xf => ∃ x y, ds = [.tup [x, y]] ∧ cs = [] ∧ Anyv x m ∧ isRowD x = false ∧ xf "BadRow" [("given", x)] m
def sl_0 (cs : List (Option D)) : SpD := slD cs
def sl_1 (cs : List (Option D)) : SpD := slD cs
def sl_2 (cs : List (Option D)) : SpD := slD cs
def sl_3 (cs : List (Option D)) : SpD := slS cs
def sl_4 (cs : List (Option D)) : SpD := slS cs
def lsp : Nat → List (Option D) → SpD := fun i => ([sl_0, sl_1, sl_2, sl_3, sl_4] : List (List (Option D) → SpD)).getD i (fun _ _ _ _ _ => False)
theorem rl_l0 : ∀ cs ds m q xf, sl_0 cs ds m q xf → ds.length = ["_law_todo"].length := fun cs ds m q xf ⟨_, _, e, _⟩ => by rw [e]; rfl
theorem rl_l1 : ∀ cs ds m q xf, sl_1 cs ds m q xf → ds.length = ["_law_pair"].length := rl_l0
theorem rl_l2 : ∀ cs ds m q xf, sl_2 cs ds m q xf → ds.length = ["_law_todo"].length := rl_l0
theorem rl_l3 : ∀ cs ds m q xf, sl_3 cs ds m q xf → ds.length = ["_law_todo"].length := fun cs ds m q xf ⟨_, _, e, _⟩ => by rw [e]; rfl
theorem rl_l4 : ∀ cs ds m q xf, sl_4 cs ds m q xf → ds.length = ["_law_todo"].length := rl_l3
theorem rp_l0 : ∀ cs ds m q xf, sl_0 cs ds m q xf → rd_l0 (xdD xf) (nvL N_l0 ds cs) m (rtD q) := by
  rintro cs ds m q xf ⟨x, y, rfl, rfl, ax, ay, k1, k2, k3⟩
  unfold rd_l0 N_l0 nvL
  walk_at "rd"
  exact ⟨x, y, rfl, ax, ay, fun h => xd_same (n := []) (k1 h), fun h1 h2 => xd_same (n := []) (k2 h1 h2), fun rs ks e1 e2 h1 h2 => rt_same (k3 rs ks e1 e2 h1 h2 _)⟩
theorem rp_l1 : ∀ cs ds m q xf, sl_1 cs ds m q xf → rd_l1 (xdD xf) (nvL N_l1 ds cs) m (rtD q) := by
  rintro cs ds m q xf ⟨x, y, rfl, rfl, ax, ay, k1, k2, k3⟩
  unfold rd_l1 N_l1 nvL
  walk_at "rd"
  exact ⟨x, y, rfl, ax, ay, fun h => xd_same (n := []) (k1 h), fun h1 h2 => xd_same (n := []) (k2 h1 h2), fun rs ks e1 e2 h1 h2 => rt_same (k3 rs ks e1 e2 h1 h2 _)⟩
theorem rp_l2 : ∀ cs ds m q xf, sl_2 cs ds m q xf → rd_l2 (xdD xf) (nvL N_l2 ds cs) m (rtD q) := by
  rintro cs ds m q xf ⟨x, y, rfl, rfl, ax, ay, k1, k2, k3⟩
  unfold rd_l2 N_l2 nvL
  walk_at "rd"
  exact ⟨x, y, rfl, ax, ay, fun h => xd_same (n := []) (k1 h), fun h1 h2 => xd_same (n := []) (k2 h1 h2), fun rs ks e1 e2 h1 h2 p hp => rt_sub ((Sub.refl m).add hp) (k3 rs ks e1 e2 h1 h2 _)⟩
theorem rp_l3 : ∀ cs ds m q xf, sl_3 cs ds m q xf → rd_l3 (xdD xf) (nvL N_l3 ds cs) m (rtD q) := by
  rintro cs ds m q xf ⟨x, y, rfl, rfl, ax, hr, k⟩
  unfold rd_l3 N_l3 nvL
  walk_at "rd"
  exact ⟨x, rfl, ax, hr, xd_same (n := []) k⟩
theorem rp_l4 : ∀ cs ds m q xf, sl_4 cs ds m q xf → rd_l4 (xdD xf) (nvL N_l4 ds cs) m (rtD q) := by
  rintro cs ds m q xf ⟨x, y, rfl, rfl, ax, hr, k⟩
  unfold rd_l4 N_l4 nvL
  walk_at "rd"
  exact ⟨x, rfl, ax, hr, xd_same (n := []) k⟩
def N__law_refusal : List Str := ["_law_deed", "_law_todo", "_law_found", "_law_e"]
def rd__law_refusal (lamL : LamE) (li : Nat) (lcl : List (Str × Addr)) (lws : List (Option V)) : RS := rSeq (rSet (rC .non) 2)
  (rSeq (rTry [("BadRow", some 3, fun xa xc xo => rRet (rTup (rCons (rC (.str [114, 111, 119])) (rCons (rOp gEqS (rXf xa xc xo "given" (rVar 3)) (rOp gIx (rVar 1) (rC (.int 0)))) (rCons (rAndV (rIsX xa xc xo "RestError" (rVar 3)) (rOp gIs (rVar 2) (rC .non))) (rNil)))))), ("BadKinds", some 3, fun xa xc xo => rRet (rTup (rCons (rC (.str [107, 105, 110, 100, 115])) (rCons (rOp gEqS (rXf xa xc xo "given" (rVar 3)) (rOp gIx (rVar 1) (rC (.int 1)))) (rCons (rAndV (rIsX xa xc xo "RestError" (rVar 3)) (rOp gIs (rVar 2) (rC .non))) (rNil))))))] (rSet (rDeed 0 (lamL.S li) lcl lws (lsp li) (rCons (rVar 1) (rNil))) 2))
  (rRet (rC .non)))

def tagR (s : List Nat) : D := .tup [.str s, .bl true, .bl true]
def sq__law_refusal (i : Nat) (cs : List (Option D)) : SpD := fun r m q _ => ∃ x y, r = [.tup [x, y]] ∧ thD 50 x = true ∧ thD 50 y = true ∧ ((isRowD x = false ∧ (∀ (q1 : QD) (xf1 : XF), xf1 "BadRow" [("given", x)] m → lsp i cs [.tup [x, y]] m q1 xf1) ∧ q (tagR [114, 111, 119]) m) ∨ ((∀ (q1 : QD) (xf1 : XF), xf1 "BadKinds" [("given", y)] m → lsp i cs [.tup [x, y]] m q1 xf1) ∧ q (tagR [107, 105, 110, 100, 115]) m) ∨ ((∀ (q1 : QD) (xf1 : XF), (∀ d, q1 d m) → lsp i cs [.tup [x, y]] m q1 xf1) ∧ q .non m))
abbrev sp__law_refusal (L : LamE) : SpD := spT L 5 sq__law_refusal
theorem rl__law_refusal (L : LamE) : ∀ ds m q xf, sp__law_refusal L ds m q xf → ds.length = ["_law_deed", "_law_todo"].length := fun ds m q xf ⟨_, _, _, _, _, _, _, e, _, _, _, e2, _⟩ => by rw [e, e2]; rfl
theorem rp__law_refusal (L : LamE) {li : Nat} {f c : Addr} {cl : List (Str × Addr)} {ws : List (Option V)} {cs : List (Option D)} {r : List D} {m : Mem} {q : QD} {xf : XF} (hi : li < 5) (h : sq__law_refusal li cs r m q xf) :
    rd__law_refusal L li cl ws (xdD xf) (enD q) (nvs N__law_refusal (.fn f (L.S li) cl c ws cs :: r)) m := by
  obtain ⟨x, y, rfl, tx, ty, h⟩ := h
  have hz : sizeLine = 16777216 := sizeLine_eq
  unfold rd__law_refusal N__law_refusal
  walk_at "rd"
  refine ⟨f, c, cs, rfl, ?_⟩
  rcases h with ⟨_, hd, k⟩ | ⟨hd, k⟩ | ⟨hd, k⟩
  · refine hd _ _ ?_
    rw [if_pos (show isSub "BadRow" "BadRow" = true by decide)]
    intro a c o hm
    refine ⟨_, _, rfl, x, rfl, rfl, tx, _, _, rfl, ?_⟩
    rw [if_pos (by simp [isSub])]
    exact ⟨by omega, rt_same k⟩
  · refine hd _ _ ?_
    rw [if_neg (show ¬ isSub "BadKinds" "BadRow" = true by decide), if_pos (show isSub "BadKinds" "BadKinds" = true by decide)]
    intro a c o hm
    refine ⟨_, _, rfl, y, rfl, rfl, ty, _, _, rfl, ?_⟩
    rw [if_pos (by simp [isSub])]
    exact ⟨by omega, rt_same k⟩
  · exact hd _ _ fun d => rt_same k
end DL

namespace DL
open PySem PySem.Spec PyProof.Rows L2
/-! k14: errors made by hand; the law -/
local macro_rules | `(tactic| walk_at "rd") => `(tactic| simp only [rSetU, rGetE, gGetE, rSetDef, gSetDef, rListVals, gInTx, rSlT, gSlT, rStarS, rListValsK, rLenSetI, rSortSetI, rSetOb, rGetOb, rMkX, rMkX0, rXv, rIsV, rIsVE, rPutOb, gSortDI, gSortLI, gAddO, gInKD, rDct0K, rSetK, rInK, rGetK, gGetK, gDictP, rBack, rRngB, gSum, rLam, rGive, rDeed, rRaise0, rForK, rStar, rDcT, rbPutT, gMaxP, rSlO, gSlO, rPar, rMinLen, gMinL, rInD, rSetT, rDct0T, rDct1T, rDc, rLcG, rbClause, rbEmit, rZip2, rZip3, rCallO, gLenD, gLenO, gMaxL, gSortL, gSortLO, rGetT, gGetT, gSortD, gSortDO, gKeysT, gKeysTO, rAsgL, gEqS, gInTN, rFld, rSetF, rMeth, rMake, rFrzI, rProp, rIsC, rRev, rAllK, rLcK, rLcKO, ew0, ew1, ew2, ew3, ew4, ew5, ew6, rRaise, rTry, xCls, enO, setO, rXf, rIsX, Option.elim_some, Option.elim_none, rSeq, rSet, rAsg, rRet, rRetN, rDrop, rIf, rSkip, rVar, rC, rOp, rUn, rTst, rTru, rNot, rAnd, rOr, rAndV, rOrV, rNotV, rIfE, rChain, rCons, rNil, rTup, rLst, rLstO, rCB, rLM, rSM, rSl, rPart, rNoPart, rAll, rRng1, rRng2, rFor, rCall, rAug, rSetIx, rLenSet, rFmt, rJoined, rJs, rLc, rLcO, rFrz, setAll, rYes, rNever, wipeN, nvs, enD, turnD, gNe, gLt, gLe, gGt, gGe, gIn, gNotIn, gIs, gIsNot, gMod, gFdiv, gPow, gAppend, gPop, gPopAt, gClear, gReverse, gExtend, gJoin, gSplit, nm_T, tp_T, at_0, at_1, at_2, at_3, at_4, at_5, at_6, at_7, ix_0, ix_1, ix_2, ix_3, ix_4, List.map_cons, List.map_nil, List.length_cons, List.length_nil, List.replicate, List.cons_append, List.nil_append, List.getElem?_cons_zero, List.getElem?_cons_succ, List.set_cons_zero, List.set_cons_succ, Option.some.injEq, exists_eq_left', exists_eq_left, exists_and_left, D.int.injEq, D.str.injEq, D.bl.injEq, D.ref.injEq, D.tup.injEq, D.lst.injEq, MO.lst.injEq, List.cons.injEq, and_true, true_and, if_true, if_false, Bool.false_eq_true, Nat.reduceSub, Nat.reduceAdd, reduceIte, reduceCtorEq, mset_same, mset_mset, Bool.not_true, Bool.not_false, imp_self, implies_true, not_false_eq_true, forall_const, ev0, ev1, ev2, ev3, ev4, ev5, ev6, ev7, ev8, ev9, ev10, ev11, ev12, ev13, ev14, ev15, ev16, ev17, ev18, ev19, ev20, ev21, ev22, ev23, ev24, ev25, ev26, ev27, ev28, ev29, ev30, ev31, ev32, ev33, ev34, ev35, ev36, ev37, ev38, ev39, ev40, ev41, ev42, ev43, ev44, ev45, ev46, ev47, ev48, ev49, ev50, ev51, ev52, ev53, ev54, ev55, ev56, ev57, ev58, ev59, ev60, ev61, ev62, ev63, ev64, ev65, ev66, ev67, ev68, ev69, ev70, ev71, ev72, ev73, ev74, ev75, ev76, ev77, ev78, ev79, ev80, ev81, ev82, ev83, ev84, ev85, ev86, ev87, ev88, ev89, ev90, ev91, ev92, ev93, ev94, ev95, ev96, ev97, ev98, ev99, ev100, ev101, ev102, ev103, ev104, ev105, ev106, ev107, ev108, ev109, ev110, ev111, ev112, ev113, ev114, ev115, ev116, ev117, ev118, ev119, ev120, ev121, ev122, ev123, ev124, ev125, ev126, ev127, ev128, ev129, ev130, ev131, ev132, ev133, ev134, ev135, ev136, ev137, ev138, ev139, ev140, ev141, ev142, ev143, ev144, ev145, ev146, ev147, ev148, ev149, ev150, ev151, ev152, ev153, ev154, ev155, ev156, ev157, ev158, ev159, ev160, ev161, ev162])
local macro_rules | `(tactic| walk_at "rq") => `(tactic| simp only [rSetU, rGetE, gGetE, rSetDef, gSetDef, rListVals, gInTx, rSlT, gSlT, rStarS, rListValsK, rLenSetI, rSortSetI, rSetOb, rGetOb, rMkX, rMkX0, rXv, rIsV, rIsVE, rPutOb, gSortDI, gSortLI, gAddO, gInKD, rDct0K, rSetK, rInK, rGetK, gGetK, gDictP, rBack, rRngB, gSum, rLam, rGive, rDeed, rRaise0, rForK, rStar, rDcT, rbPutT, gMaxP, rSlO, gSlO, rPar, rMinLen, gMinL, rInD, rSetT, rDct0T, rDct1T, rDc, rLcG, rbClause, rbEmit, rZip2, rZip3, rCallO, gLenD, gLenO, gMaxL, gSortL, gSortLO, rGetT, gGetT, gSortD, gSortDO, gKeysT, gKeysTO, rAsgL, gEqS, gInTN, rFld, rSetF, rMeth, rMake, rFrzI, rProp, rIsC, rRev, rAllK, rLcK, rLcKO, ew0, ew1, ew2, ew3, ew4, ew5, ew6, rRaise, rTry, xCls, enO, setO, rXf, rIsX, Option.elim_some, Option.elim_none, rSeq, rSet, rAsg, rRet, rRetN, rDrop, rIf, rSkip, rVar, rC, rOp, rUn, rTst, rTru, rNot, rAnd, rOr, rAndV, rOrV, rNotV, rIfE, rChain, rCons, rNil, rTup, rLst, rLstO, rCB, rLM, rSM, rSl, rPart, rNoPart, rAll, rRng1, rRng2, rFor, rCall, rAug, rSetIx, rLenSet, rFmt, rJoined, rJs, rLc, rLcO, rFrz, setAll, rYes, rNever, wipeN, nvs, enD, turnD, gNe, gLt, gLe, gGt, gGe, gIn, gNotIn, gIs, gIsNot, gMod, gFdiv, gPow, gAppend, gPop, gPopAt, gClear, gReverse, gExtend, gJoin, gSplit, nm_T, tp_T, at_0, at_1, at_2, at_3, at_4, at_5, at_6, at_7, ix_0, ix_1, ix_2, ix_3, ix_4, List.map_cons, List.map_nil, List.length_cons, List.length_nil, List.replicate, List.cons_append, List.nil_append, List.getElem?_cons_zero, List.getElem?_cons_succ, List.set_cons_zero, List.set_cons_succ, Option.some.injEq, exists_eq_left', exists_eq_left, exists_and_left, D.int.injEq, D.str.injEq, D.bl.injEq, D.ref.injEq, D.tup.injEq, D.lst.injEq, MO.lst.injEq, List.cons.injEq, and_true, true_and, if_true, if_false, Bool.false_eq_true, Nat.reduceSub, Nat.reduceAdd, reduceIte, reduceCtorEq, mset_same, mset_mset, Bool.not_true, Bool.not_false, imp_self, implies_true, not_false_eq_true, forall_const, ev0, ev1, ev2, ev3, ev4, ev5, ev6, ev7, ev8, ev9, ev10, ev11, ev12, ev13, ev14, ev15, ev16, ev17, ev18, ev19, ev20, ev21, ev22, ev23, ev24, ev25, ev26, ev27, ev28, ev29, ev30, ev31, ev32, ev33, ev34, ev35, ev36, ev37, ev38, ev39, ev40, ev41, ev42, ev43, ev44, ev45, ev46, ev47, ev48, ev49, ev50, ev51, ev52, ev53, ev54, ev55, ev56, ev57, ev58, ev59, ev60, ev61, ev62, ev63, ev64, ev65, ev66, ev67, ev68, ev69, ev70, ev71, ev72, ev73, ev74, ev75, ev76, ev77, ev78, ev79, ev80, ev81, ev82, ev83, ev84, ev85, ev86, ev87, ev88, ev89, ev90, ev91, ev92, ev93, ev94, ev95, ev96, ev97, ev98, ev99, ev100, ev101, ev102, ev103, ev104, ev105, ev106, ev107, ev108, ev109, ev110, ev111, ev112, ev113, ev114, ev115, ev116, ev117, ev118, ev119, ev120, ev121, ev122, ev123, ev124, ev125, ev126, ev127, ev128, ev129, ev130, ev131, ev132, ev133, ev134, ev135, ev136, ev137, ev138, ev139, ev140, ev141, ev142, ev143, ev144, ev145, ev146, ev147, ev148, ev149, ev150, ev151, ev152, ev153, ev154, ev155, ev156, ev157, ev158, ev159, ev160, ev161, ev162, Int.reduceEq, Int.reduceNe, Int.reduceLT, Int.reduceLE, Int.reduceNeg, decide_true, decide_false])
theorem comp_asY {α : Type} {T : Tgt} {tt : RT} {te : RE} {n : Nv} {m : Mem} {k : Addr → Mem → Prop} (gx : α → D) (hx : α → Option D) (as : List α) (hl : as.length ≤ 16000000)
    (hs : ∀ P, m P = none → ∀ a ∈ as, ∀ acc : List D, acc.length < sizeLine → ∀ kk : Mem → Prop, kk (mset m P (.lst (addO acc (hx a)))) → turnD T tt te n P kk (gx a) (mset m P (.lst acc)))
    (hk : ∀ P, m P = none → k P (mset m P (.lst (as.filterMap hx)))) : ∀ P, m P = none → compD T tt te n P (k P) (as.map gx) (mset m P (.lst [])) := fun P hP => by
  have hz : sizeLine = 16777216 := sizeLine_eq
  refine comp_step (fun xs m' => ∃ done todo : List α, as = done ++ todo ∧ xs = todo.map gx ∧ m' = mset m P (.lst (done.filterMap hx))) ?_ ?_ _ _ ⟨[], as, rfl, rfl, rfl⟩
  · rintro m' ⟨done, todo, ea, ex, rfl⟩
    have : todo = [] := by
      cases todo with
      | nil => rfl
      | cons _ _ => cases ex
    subst this
    rw [List.append_nil] at ea
    rw [← ea]
    exact hk P hP
  · rintro x xs m' ⟨done, todo, ea, ex, rfl⟩ kk hkk
    cases todo with
    | nil => cases ex
    | cons a todo =>
      rw [List.map_cons] at ex
      injection ex with e1 e2
      subst e1 e2
      have hlen := congrArg List.length ea
      rw [List.length_append, List.length_cons] at hlen
      have hfl := List.length_filterMap_le hx done
      refine hs P hP a (by rw [ea]; simp) _ (by omega) kk (hkk _ ⟨done ++ [a], todo, by rw [ea]; simp, rfl, ?_⟩)
      rw [List.filterMap_append]
      cases h : hx a with
      | none => simp [addO, List.filterMap, h]
      | some d => simp [addO, List.filterMap, h]
theorem fm_someY {α β : Type} (f : α → β) : ∀ l : List α, l.filterMap (fun a => some (f a)) = l.map f
  | [] => rfl
  | a :: l => by
    show f a :: l.filterMap (fun a => some (f a)) = _
    rw [fm_someY f l, List.map_cons]
theorem fm_filterY {α β : Type} (f : α → Bool) (g : α → β) : ∀ l : List α, l.filterMap (fun a => if f a = true then some (g a) else none) = (l.filter f).map g
  | [] => rfl
  | a :: l => by
    rw [List.filterMap_cons, List.filter_cons, fm_filterY f g l]
    cases f a <;> rfl
/-- the classes of errors but their base -/
def names : List Str := ["BadClosed", "BadKinds", "BadLimits", "BadMost", "BadName", "BadNeed", "BadPrices", "BadReading", "BadRow", "BadStops", "BadText", "BadUnit", "BadUnits", "BadWays", "NoNews", "NoStand", "NothingToUndo", "TooMany"]
def classN (nm : Str) : Nat := ((names.map (isSub nm)).filter id).length
theorem class_one : ∀ nm ∈ names, classN nm = 1 := by decide +kernel
theorem class_none : classN "RestError" = 0 := by decide +kernel
def N__law_classes : List Str := ["_law_e", "_law_told", "_law_item"]
def rd__law_classes : RS := rSeq (rSet (rLst (rCons (rIsV "BadClosed" (rVar 0)) (rCons (rIsV "BadKinds" (rVar 0)) (rCons (rIsV "BadLimits" (rVar 0)) (rCons (rIsV "BadMost" (rVar 0)) (rNil)))))) 1)
  (rSeq (rSet (rOp gAdd (rVar 1) (rLst (rCons (rIsV "BadName" (rVar 0)) (rCons (rIsV "BadNeed" (rVar 0)) (rCons (rIsV "BadPrices" (rVar 0)) (rCons (rIsV "BadReading" (rVar 0)) (rNil))))))) 1)
  (rSeq (rSet (rOp gAdd (rVar 1) (rLst (rCons (rIsV "BadRow" (rVar 0)) (rCons (rIsV "BadStops" (rVar 0)) (rCons (rIsV "BadText" (rVar 0)) (rCons (rIsV "BadUnit" (rVar 0)) (rNil))))))) 1)
  (rSeq (rSet (rOp gAdd (rVar 1) (rLst (rCons (rIsV "BadUnits" (rVar 0)) (rCons (rIsV "BadWays" (rVar 0)) (rCons (rIsV "NoNews" (rVar 0)) (rCons (rIsV "NoStand" (rVar 0)) (rNil))))))) 1)
  (rSeq (rSet (rOp gAdd (rVar 1) (rLst (rCons (rIsV "NothingToUndo" (rVar 0)) (rCons (rIsV "TooMany" (rVar 0)) (rNil))))) 1)
  (rRet (rCB gLen (rCons (rLc (rAll (rVar 1)) (.nm 2) (rTst (rVar 2)) (rVar 2) [2]) (rNil))))))))

def sp__law_classes : SpD := fun ds m q _ => ∃ a nm fs, ds = [.exc a .none none nm fs] ∧ q (.int (classN nm : Nat)) m
theorem rl__law_classes : ∀ ds m q xf, sp__law_classes ds m q xf → ds.length = ["_law_e"].length := fun ds m q xf ⟨_, _, _, e, _⟩ => by rw [e]; rfl
theorem rp__law_classes : ∀ ds m q xf, sp__law_classes ds m q xf → rd__law_classes (xdD xf) (enD q) (nvs N__law_classes ds) m := by
  rintro ds m q xf ⟨a, nm, fs, rfl, k⟩
  have hz : sizeLine = 16777216 := sizeLine_eq
  unfold rd__law_classes N__law_classes
  walk_at "rd"
  refine ⟨_, _, _, rfl, _, _, _, rfl, _, _, _, rfl, _, _, _, rfl, by omega, ?_⟩
  refine ⟨_, _, _, rfl, _, _, _, rfl, _, _, _, rfl, _, _, _, rfl, by omega, by omega, _, _, _, rfl, _, _, _, rfl, _, _, _, rfl, _, _, _, rfl, by omega, by omega, _, _, _, rfl, _, _, _, rfl, _, _, _, rfl, _, _, _, rfl, by omega, by omega, _, _, _, rfl, _, _, _, rfl, by omega, by omega, ?_⟩
  refine comp_asY (fun b : Bool => D.bl b) (fun b => if b = true then some (.bl b) else none) (names.map (isSub nm)) (by rw [List.length_map]; decide) (fun P hP b hb acc hla kk hk => ?_) fun P hP => ?_
  · walk_at "rd"
    cases b
    · exact hk
    · exact ⟨hla, hk⟩
  · rw [fm_filterY (fun b : Bool => b) (fun b => D.bl b), mdel_mset hP]
    refine ⟨_, mset_same, ?_⟩
    rw [List.length_map]
    exact rt_same k
def N__law_made_by_hand : List Str := ["_law_bag_here", "_law_given", "_law_parts", "_law_made", "_law_e"]
def rd__law_made_by_hand_t8 : RS := rSeq (rIf (rOr (rNot (rTst (rIsVE (rMkX0 "RestError")))) (rOr (rTst (rOp gNe (rCall sp__law_classes (rCons (rMkX0 "RestError") (rNil))) (rC (.int 0)))) (rTst (rOp gNeSL (rVar 2) (rOp gMul (rLst (rCons (rVar 1) (rNil))) (rC (.int 16))))))) (rRet (rC (.bl false))) (rSkip))
  (rRet (rCB gAll (rCons (rLc (rAll (rVar 3)) (.nm 4) (rYes) (rAndV (rIsV "RestError" (rVar 4)) (rOp gEq (rCall sp__law_classes (rCons (rVar 4) (rNil))) (rC (.int 1)))) [4]) (rNil))))
def rd__law_made_by_hand_t7 : RS := rSeq (rSet (rOp gAdd (rVar 3) (rLst (rCons (rMkX "BadText" (rVar 1)) (rCons (rMkX "BadUnit" (rVar 1)) (rCons (rMkX "BadUnits" (rVar 1)) (rCons (rMkX "BadWays" (rVar 1)) (rCons (rMkX "NoNews" (rVar 1)) (rCons (rMkX "NoStand" (rVar 1)) (rNil))))))))) 3)
  (rd__law_made_by_hand_t8)
def rd__law_made_by_hand_t6 : RS := rSeq (rSet (rOp gAdd (rVar 3) (rLst (rCons (rMkX "BadName" (rVar 1)) (rCons (rMkX "BadNeed" (rVar 1)) (rCons (rMkX "BadPrices" (rVar 1)) (rCons (rMkX "BadReading" (rVar 1)) (rCons (rMkX "BadRow" (rVar 1)) (rCons (rMkX "BadStops" (rVar 1)) (rNil))))))))) 3)
  (rd__law_made_by_hand_t7)
def rd__law_made_by_hand_t5 : RS := rSeq (rSet (rLst (rCons (rMkX0 "NothingToUndo") (rCons (rMkX0 "TooMany") (rCons (rMkX "BadClosed" (rVar 1)) (rCons (rMkX "BadKinds" (rVar 1)) (rCons (rMkX "BadLimits" (rVar 1)) (rCons (rMkX "BadMost" (rVar 1)) (rNil)))))))) 3)
  (rd__law_made_by_hand_t6)
def rd__law_made_by_hand_t4 : RS := rSeq (rSet (rOp gAdd (rVar 2) (rLst (rCons (rXv (rMkX "BadUnits" (rVar 1))) (rCons (rXv (rMkX "BadWays" (rVar 1))) (rCons (rXv (rMkX "NoNews" (rVar 1))) (rCons (rXv (rMkX "NoStand" (rVar 1))) (rNil))))))) 2)
  (rd__law_made_by_hand_t5)
def rd__law_made_by_hand_t3 : RS := rSeq (rSet (rOp gAdd (rVar 2) (rLst (rCons (rXv (rMkX "BadRow" (rVar 1))) (rCons (rXv (rMkX "BadStops" (rVar 1))) (rCons (rXv (rMkX "BadText" (rVar 1))) (rCons (rXv (rMkX "BadUnit" (rVar 1))) (rNil))))))) 2)
  (rd__law_made_by_hand_t4)
def rd__law_made_by_hand_t2 : RS := rSeq (rSet (rOp gAdd (rVar 2) (rLst (rCons (rXv (rMkX "BadName" (rVar 1))) (rCons (rXv (rMkX "BadNeed" (rVar 1))) (rCons (rXv (rMkX "BadPrices" (rVar 1))) (rCons (rXv (rMkX "BadReading" (rVar 1))) (rNil))))))) 2)
  (rd__law_made_by_hand_t3)
def rd__law_made_by_hand_t1 : RS := rSeq (rSet (rLst (rCons (rXv (rMkX "BadClosed" (rVar 1))) (rCons (rXv (rMkX "BadKinds" (rVar 1))) (rCons (rXv (rMkX "BadLimits" (rVar 1))) (rCons (rXv (rMkX "BadMost" (rVar 1))) (rNil)))))) 2)
  (rd__law_made_by_hand_t2)
def rd__law_made_by_hand : RS := rSeq (rSet (rCall sp__law_pick (rCons (rVar 0) (rCons (rLst (rCons (rC .non) (rCons (rC (.int 3)) (rCons (rC (.str [120])) (rCons (rLst (rCons (rC (.int 1)) (rNil))) (rCons (rTup (rCons (rC (.int 2)) (rNil))) (rCons (rC (.dct false [])) (rNil)))))))) (rNil)))) 1)
  (rd__law_made_by_hand_t1)

def sp__law_made_by_hand : SpD := fun ds m q _ => ∃ b, ds = [.ref b] ∧ m b = some (.inv Bag) ∧ q (.bl true) m
theorem rl__law_made_by_hand : ∀ ds m q xf, sp__law_made_by_hand ds m q xf → ds.length = ["_law_bag_here"].length := fun ds m q xf ⟨_, e, _⟩ => by rw [e]; rfl
theorem bls_trueY {α : Type} : ∀ l : List α, bls (l.map fun _ => D.bl true) = some (l.map fun _ => true)
  | [] => rfl
  | a :: l => by
    rw [List.map_cons, bls, bls_trueY l]
    rfl
def excD (t : Addr × Str × List (Str × D)) : D := .exc t.1 .none none t.2.1 t.2.2
structure Errs (es : List D) : Prop where
  ex : ∃ ts : List (Addr × Str × List (Str × D)), es = ts.map excD ∧ ∀ t ∈ ts, t.2.1 ∈ names
theorem Errs.nil : Errs [] := ⟨[], rfl, fun _ h => by cases h⟩
theorem Errs.cons {a : Addr} {nm : Str} {fs : List (Str × D)} {es : List D} (h : nm ∈ names) (r : Errs es) : Errs (.exc a .none none nm fs :: es) := by
  obtain ⟨ts, rfl, ht⟩ := r.ex
  exact ⟨(a, nm, fs) :: ts, rfl, fun t hm => by
    rcases List.mem_cons.mp hm with rfl | hm
    · exact h
    · exact ht t hm⟩
theorem hand_t8 {m : Mem} {q : QD} {xf : XF} {b : Addr} {g : D} {es : List D} (hg : thD 49 g = true) (he : Errs es) (hl : es.length ≤ 100) (k : q (.bl true) m) : rd__law_made_by_hand_t8 (xdD xf) (enD q) [some (.ref b), some g, some (.lst (List.replicate 16 g)), some (.lst es), none] m := by
  have hz : sizeLine = 16777216 := sizeLine_eq
  unfold rd__law_made_by_hand_t8
  walk_at "rd"
  refine fun a0 h0 => ⟨_, _, _, rfl, fun a1 h1 => ⟨_, _, _, rfl, ?_⟩⟩
  rw [class_none]
  walk_at "rd"
  have e16 : reps 16 [g] = List.replicate 16 g := rfl
  refine ⟨by omega, ⟨by omega, by omega, by omega⟩, List.replicate 16 g, rfl, by rw [e16], ?_, false, rfl, ?_⟩
  · show thDs 49 (List.replicate 16 g) = true
    generalize 16 = n
    induction n with
    | zero => rfl
    | succ n ih =>
      show (thD 49 g && thDs 49 (List.replicate n g)) = true
      rw [hg, ih]
      rfl
  rw [if_neg (by decide)]
  obtain ⟨ts, rfl, ht⟩ := he.ex
  rw [List.length_map] at hl
  refine comp_asY excD (fun _ => some (.bl true)) ts (by omega) (fun P hP t htm acc hla kk hk => ?_) fun P hP => ?_
  · have hsub : isSub t.2.1 "RestError" = true := by simp [isSub]
    unfold excD
    walk_at "rd"
    refine ⟨_, _, _, rfl, ?_⟩
    rw [hsub, if_pos rfl]
    refine ⟨_, _, _, rfl, ?_⟩
    rw [class_one _ (ht t htm)]
    walk_at "rd"
    rw [decide_eq_true (show ((1 : Nat) : Int) = 1 by decide)]
    exact ⟨hla, hk⟩
  · rw [fm_someY, mdel_mset hP]
    refine ⟨_, mset_same, _, bls_trueY ts, ?_⟩
    rw [show (ts.map fun _ => true).all id = true by rw [List.all_eq_true]; intro x hx; obtain ⟨_, _, rfl⟩ := List.mem_map.mp hx; rfl]
    exact rt_same k
theorem Errs.app {es fs : List D} (h : Errs es) (k : Errs fs) : Errs (es ++ fs) := by
  obtain ⟨ts, rfl, ht⟩ := h.ex
  obtain ⟨us, rfl, hu⟩ := k.ex
  exact ⟨ts ++ us, by rw [List.map_append], fun t hm => (List.mem_append.mp hm).elim (ht t) (hu t)⟩
theorem hand_t7 {m : Mem} {q : QD} {xf : XF} {b : Addr} {g : D} {es : List D} (hg : thD 49 g = true) (he : Errs es) (hl : es.length ≤ 50) (k : q (.bl true) m) : rd__law_made_by_hand_t7 (xdD xf) (enD q) [some (.ref b), some g, some (.lst (List.replicate 16 g)), some (.lst es), none] m := by
  have hz : sizeLine = 16777216 := sizeLine_eq
  unfold rd__law_made_by_hand_t7
  walk_at "rd"
  refine fun a0 _ a1 _ a2 _ a3 _ a4 _ a5 _ => ⟨by omega, by omega, ?_⟩
  refine hand_t8 hg (he.app (.cons (by decide) (.cons (by decide) (.cons (by decide) (.cons (by decide) (.cons (by decide) (.cons (by decide) .nil))))))) ?_ k
  rw [List.length_append]
  simp only [List.length_cons, List.length_nil]
  omega
theorem hand_t6 {m : Mem} {q : QD} {xf : XF} {b : Addr} {g : D} {es : List D} (hg : thD 49 g = true) (he : Errs es) (hl : es.length ≤ 20) (k : q (.bl true) m) : rd__law_made_by_hand_t6 (xdD xf) (enD q) [some (.ref b), some g, some (.lst (List.replicate 16 g)), some (.lst es), none] m := by
  have hz : sizeLine = 16777216 := sizeLine_eq
  unfold rd__law_made_by_hand_t6
  walk_at "rd"
  refine fun a0 _ a1 _ a2 _ a3 _ a4 _ a5 _ => ⟨by omega, by omega, ?_⟩
  refine hand_t7 hg (he.app (.cons (by decide) (.cons (by decide) (.cons (by decide) (.cons (by decide) (.cons (by decide) (.cons (by decide) .nil))))))) ?_ k
  rw [List.length_append]
  simp only [List.length_cons, List.length_nil]
  omega
theorem hand_t5 {m : Mem} {q : QD} {xf : XF} {b : Addr} {g : D} (hg : thD 49 g = true) (k : q (.bl true) m) : rd__law_made_by_hand_t5 (xdD xf) (enD q) [some (.ref b), some g, some (.lst (List.replicate 16 g)), none, none] m := by
  have hz : sizeLine = 16777216 := sizeLine_eq
  unfold rd__law_made_by_hand_t5
  walk_at "rd"
  refine fun a0 _ a1 _ a2 _ a3 _ a4 _ a5 _ => ⟨by omega, ?_⟩
  exact hand_t6 hg (.cons (by decide) (.cons (by decide) (.cons (by decide) (.cons (by decide) (.cons (by decide) (.cons (by decide) .nil)))))) (by simp) k
theorem hand_t4 {m : Mem} {q : QD} {xf : XF} {b : Addr} {g : D} (hg : thD 49 g = true) (k : q (.bl true) m) : rd__law_made_by_hand_t4 (xdD xf) (enD q) [some (.ref b), some g, some (.lst (List.replicate 12 g)), none, none] m := by
  have hz : sizeLine = 16777216 := sizeLine_eq
  unfold rd__law_made_by_hand_t4
  walk_at "rd"
  refine fun a0 h0 => ⟨_, _, _, rfl, _, rfl, ?_⟩
  refine fun a1 h1 => ⟨_, _, _, rfl, _, rfl, ?_⟩
  refine fun a2 h2 => ⟨_, _, _, rfl, _, rfl, ?_⟩
  refine fun a3 h3 => ⟨_, _, _, rfl, _, rfl, ?_⟩
  refine ⟨by omega, by omega, ?_⟩
  exact hand_t5 hg k
theorem hand_t3 {m : Mem} {q : QD} {xf : XF} {b : Addr} {g : D} (hg : thD 49 g = true) (k : q (.bl true) m) : rd__law_made_by_hand_t3 (xdD xf) (enD q) [some (.ref b), some g, some (.lst (List.replicate 8 g)), none, none] m := by
  have hz : sizeLine = 16777216 := sizeLine_eq
  unfold rd__law_made_by_hand_t3
  walk_at "rd"
  refine fun a0 h0 => ⟨_, _, _, rfl, _, rfl, ?_⟩
  refine fun a1 h1 => ⟨_, _, _, rfl, _, rfl, ?_⟩
  refine fun a2 h2 => ⟨_, _, _, rfl, _, rfl, ?_⟩
  refine fun a3 h3 => ⟨_, _, _, rfl, _, rfl, ?_⟩
  refine ⟨by omega, by omega, ?_⟩
  exact hand_t4 hg k
theorem hand_t2 {m : Mem} {q : QD} {xf : XF} {b : Addr} {g : D} (hg : thD 49 g = true) (k : q (.bl true) m) : rd__law_made_by_hand_t2 (xdD xf) (enD q) [some (.ref b), some g, some (.lst (List.replicate 4 g)), none, none] m := by
  have hz : sizeLine = 16777216 := sizeLine_eq
  unfold rd__law_made_by_hand_t2
  walk_at "rd"
  refine fun a0 h0 => ⟨_, _, _, rfl, _, rfl, ?_⟩
  refine fun a1 h1 => ⟨_, _, _, rfl, _, rfl, ?_⟩
  refine fun a2 h2 => ⟨_, _, _, rfl, _, rfl, ?_⟩
  refine fun a3 h3 => ⟨_, _, _, rfl, _, rfl, ?_⟩
  refine ⟨by omega, by omega, ?_⟩
  exact hand_t3 hg k
theorem rp__law_made_by_hand : ∀ ds m q xf, sp__law_made_by_hand ds m q xf → rd__law_made_by_hand (xdD xf) (enD q) (nvs N__law_made_by_hand ds) m := by
  rintro ds m q xf ⟨b, rfl, hb, k⟩
  have hz : sizeLine = 16777216 := sizeLine_eq
  unfold rd__law_made_by_hand N__law_made_by_hand
  walk_at "rd"
  refine ⟨by omega, by omega, by omega, b, _, _, rfl, hb, rfl, by decide, by decide, fun g hg => ?_⟩
  have hg : thD 49 g = true := by
    simp only [List.mem_cons, List.not_mem_nil, or_false] at hg
    rcases hg with rfl | rfl | rfl | rfl | rfl | rfl <;> rfl
  show rd__law_made_by_hand_t1 (xdD xf) (enD q) [some (.ref b), some g, none, none, none] m
  unfold rd__law_made_by_hand_t1
  walk_at "rd"
  refine fun a0 h0 => ⟨_, _, _, rfl, _, rfl, ?_⟩
  refine fun a1 h1 => ⟨_, _, _, rfl, _, rfl, ?_⟩
  refine fun a2 h2 => ⟨_, _, _, rfl, _, rfl, ?_⟩
  refine fun a3 h3 => ⟨_, _, _, rfl, _, rfl, ?_⟩
  refine ⟨by omega, ?_⟩
  exact hand_t2 hg k
theorem ne_tag {s : List Nat} {m : Mem} {q : QD} (hs : fl 60 (tagR s) = true) (k : q (.bl false) m) : gEqB (fun b => !b) (tagR s) (.tup [.str s, .bl true, .bl true]) m q :=
  ⟨hs, hs, by
    show q (.bl (!eqD (tagR s) (tagR s))) m
    rw [eqD_refl hs]
    exact k⟩
theorem slD_row {x y : D} {m : Mem} {q : QD} {xf : XF} (wx : Wrg x) (wy : Wrg y) (hx : isRowD x = false) (h : xf "BadRow" [("given", x)] m) : slD [] [.tup [x, y]] m q xf :=
  ⟨x, y, rfl, rfl, wx.any m, wy.any m, fun _ => h, fun h1 => absurd (hx.symm.trans h1) (by decide), fun rs ks e1 e2 h1 _ => by
    subst e1
    exact absurd (hx.symm.trans h1) (by decide)⟩
theorem slD_kin {x y : D} {m : Mem} {q : QD} {xf : XF} (wx : Wrg x) (wy : Wrg y) (hx : isRowD x = true) (hy : isKindsD y = false) (h : xf "BadKinds" [("given", y)] m) : slD [] [.tup [x, y]] m q xf :=
  ⟨x, y, rfl, rfl, wx.any m, wy.any m, fun h1 => absurd (hx.symm.trans h1) (by decide), fun _ _ => h, fun rs ks e1 e2 _ h1 => by
    subst e2
    exact absurd (hy.symm.trans h1) (by decide)⟩
theorem slD_ok {x y : D} {m : Mem} {q : QD} {xf : XF} (wx : Wrg x) (wy : Wrg y) (hx : isRowD x = true) (hy : isKindsD y = true) (h : ∀ d, q d m) : slD [] [.tup [x, y]] m q xf :=
  ⟨x, y, rfl, rfl, wx.any m, wy.any m, fun h1 => absurd (hx.symm.trans h1) (by decide), fun _ h1 => absurd (hy.symm.trans h1) (by decide), fun _ _ _ _ _ _ => h⟩
theorem ref_row {lamL : LamE} {i : Nat} {m : Mem} {q : QD} {xf : XF} {f c : Addr} {cl : List (Str × Addr)} {ws : List (Option V)} {x y : D} (hi : i < 5) (tx : thD 50 x = true) (ty : thD 50 y = true) (hx : isRowD x = false) (h : ∀ (q1 : QD) (xf1 : XF), xf1 "BadRow" [("given", x)] m → lsp i [] [.tup [x, y]] m q1 xf1) (k : q (tagR [114, 111, 119]) m) :
    sp__law_refusal lamL [.fn f (lamL.S i) cl c ws [], .tup [x, y]] m q xf := ⟨f, i, cl, c, ws, [], _, rfl, hi, x, y, rfl, tx, ty, .inl ⟨hx, h, k⟩⟩
theorem ref_kin {lamL : LamE} {i : Nat} {m : Mem} {q : QD} {xf : XF} {f c : Addr} {cl : List (Str × Addr)} {ws : List (Option V)} {x y : D} (hi : i < 5) (tx : thD 50 x = true) (ty : thD 50 y = true) (h : ∀ (q1 : QD) (xf1 : XF), xf1 "BadKinds" [("given", y)] m → lsp i [] [.tup [x, y]] m q1 xf1) (k : q (tagR [107, 105, 110, 100, 115]) m) :
    sp__law_refusal lamL [.fn f (lamL.S i) cl c ws [], .tup [x, y]] m q xf := ⟨f, i, cl, c, ws, [], _, rfl, hi, x, y, rfl, tx, ty, .inr (.inl ⟨h, k⟩)⟩
theorem ref_non {lamL : LamE} {i : Nat} {m : Mem} {q : QD} {xf : XF} {f c : Addr} {cl : List (Str × Addr)} {ws : List (Option V)} {x y : D} (hi : i < 5) (tx : thD 50 x = true) (ty : thD 50 y = true) (h : ∀ (q1 : QD) (xf1 : XF), (∀ d, q1 d m) → lsp i [] [.tup [x, y]] m q1 xf1) (k : q .non m) :
    sp__law_refusal lamL [.fn f (lamL.S i) cl c ws [], .tup [x, y]] m q xf := ⟨f, i, cl, c, ws, [], _, rfl, hi, x, y, rfl, tx, ty, .inr (.inr ⟨h, k⟩)⟩
def Door (lamL : LamE) (lC : Nat → List (Str × Addr)) (d : D) : Prop := ∃ f c i, d = .fn f (lamL.S i) (lC i) c [] [] ∧ i ∈ [0, 1, 2, 3, 4] ∧ (i = 0 ∨ i = 1 ∨ i = 2)
theorem lsp_door {i : Nat} (h : i = 0 ∨ i = 1 ∨ i = 2) : lsp i = slD := by
  rcases h with rfl | rfl | rfl <;> rfl
theorem door_js {i : Nat} {n : Nv} (h : i ∈ [0, 1, 2, 3, 4]) : (([[], [], [], [], []] : List (List Nat)).getD i []).map (nAt n) = [] := by
  simp only [List.mem_cons, List.not_mem_nil, or_false] at h
  rcases h with rfl | rfl | rfl | rfl | rfl <;> rfl
theorem wrg_row {cs : List Nat} (h : isRowC cs = true) : Wrg (.str cs) := wrg_str (Nat.le_trans (row_len h) (by decide))
def N_law : List Str := ["_law_script", "_law_bag_here", "_law_doors", "_law_turn", "_law_row_here", "_law_kinds_here", "_law_good", "_law_door"]
def rd_law (lamL : LamE) (lC : Nat → List (Str × Addr)) : RS := rSeq (rSet (rCall sp__law_bag (rCons (rVar 0) (rNil))) 1)
  (rSeq (rSet (rLstO (rCons (rLam (lamL.P 0) (lamL.S 0) (lC 0)) (rCons (rLam (lamL.P 1) (lamL.S 1) (lC 1)) (rNil)))) 2)
  (rSeq (rDrop (rLM gAppend (rVar 2) (rCons (rLam (lamL.P 2) (lamL.S 2) (lC 2)) (rNil))))
  (rSeq (rFor (rRng1 (rCons (rC (.int 4)) (rNil))) (.nm 3) (rSeq (rSet (rCall sp__law_wrong_row (rCons (rVar 1) (rNil))) 4)
  (rSeq (rSet (rCall sp__law_wrong_kinds (rCons (rVar 1) (rNil))) 5)
  (rSeq (rSet (rTup (rCons (rCall sp__law_row (rCons (rVar 1) (rCons (rC (.int 6)) (rNil)))) (rCons (rCall sp__law_some_kinds (rCons (rVar 1) (rNil))) (rNil)))) 6)
  (rSeq (rIf (rOr (rTst (rOp gIsNot (rCall sp_is_row (rCons (rVar 4) (rNil))) (rC (.bl false)))) (rTst (rOp gIsNot (rCall sp_is_kinds (rCons (rVar 5) (rNil))) (rC (.bl false))))) (rRet (rC (.bl false))) (rSkip))
  (rSeq (rForK (rAllK (rVar 2)) (.nm 7) (rSeq (rIf (rTst (rOp gNe (rGive lamL.S lC [0, 1, 2, 3, 4] (fun i => ([[], [], [], [], []] : List (List Nat)).getD i []) (sp__law_refusal lamL) (rCons (rVar 7) (rCons (rTup (rCons (rVar 4) (rCons (rOp gIx (rLst (rCons (rVar 5) (rCons (rOp gIx (rVar 6) (rC (.int 1))) (rNil)))) (rCall sp__law_draw (rCons (rVar 1) (rCons (rC (.int 2)) (rNil))))) (rNil)))) (rNil)))) (rTup (rCons (rC (.str [114, 111, 119])) (rCons (rC (.bl true)) (rCons (rC (.bl true)) (rNil))))))) (rRet (rC (.bl false))) (rSkip))
  (rIf (rOr (rTst (rOp gNe (rGive lamL.S lC [0, 1, 2, 3, 4] (fun i => ([[], [], [], [], []] : List (List Nat)).getD i []) (sp__law_refusal lamL) (rCons (rVar 7) (rCons (rTup (rCons (rOp gIx (rVar 6) (rC (.int 0))) (rCons (rVar 5) (rNil)))) (rNil)))) (rTup (rCons (rC (.str [107, 105, 110, 100, 115])) (rCons (rC (.bl true)) (rCons (rC (.bl true)) (rNil))))))) (rTst (rOp gIsNot (rGive lamL.S lC [0, 1, 2, 3, 4] (fun i => ([[], [], [], [], []] : List (List Nat)).getD i []) (sp__law_refusal lamL) (rCons (rVar 7) (rCons (rVar 6) (rNil)))) (rC .non)))) (rRet (rC (.bl false))) (rSkip))))
  (rSeq (rIf (rTst (rOp gNe (rGive lamL.S lC [0, 1, 2, 3, 4] (fun i => ([[], [], [], [], []] : List (List Nat)).getD i []) (sp__law_refusal lamL) (rCons (rLam (lamL.P 3) (lamL.S 3) (lC 3)) (rCons (rTup (rCons (rVar 4) (rCons (rC (.int 0)) (rNil)))) (rNil)))) (rTup (rCons (rC (.str [114, 111, 119])) (rCons (rC (.bl true)) (rCons (rC (.bl true)) (rNil))))))) (rRet (rC (.bl false))) (rSkip))
  (rIf (rTst (rOp gNe (rGive lamL.S lC [0, 1, 2, 3, 4] (fun i => ([[], [], [], [], []] : List (List Nat)).getD i []) (sp__law_refusal lamL) (rCons (rLam (lamL.P 4) (lamL.S 4) (lC 4)) (rCons (rTup (rCons (rVar 4) (rCons (rC (.int 0)) (rNil)))) (rNil)))) (rTup (rCons (rC (.str [114, 111, 119])) (rCons (rC (.bl true)) (rCons (rC (.bl true)) (rNil))))))) (rRet (rC (.bl false))) (rSkip)))))))))
  (rSeq (rIf (rOr (rTst (rOp gIsNot (rCall sp_is_row (rCons (rC (.str [])) (rNil))) (rC (.bl true)))) (rOr (rTst (rOp gIsNot (rCall sp_is_kinds (rCons (rC (.str [])) (rNil))) (rC (.bl false)))) (rTst (rOp gIsNot (rCall sp_is_row (rCons (rOp gMul (rC (.str [114])) (rC (.int 2000))) (rNil))) (rC (.bl true)))))) (rRet (rC (.bl false))) (rSkip))
  (rRet (rCall sp__law_made_by_hand (rCons (rVar 1) (rNil))))))))

def sp_law (lamL : LamE) : SpD := fun ds m q _ => ∃ ns, ds = [.scr ns] ∧ Tbs lamL 5 m ∧ ∀ m', q (.bl true) m'
theorem rl_law (lamL : LamE) : ∀ ds m q xf, sp_law lamL ds m q xf → ds.length = ["_law_script"].length := fun ds m q xf ⟨_, e, _⟩ => by rw [e]; rfl
theorem rp_law (lamL : LamE) (lC : Nat → List (Str × Addr)) : ∀ ds m q xf, sp_law lamL ds m q xf → rd_law lamL lC (xdD xf) (enD q) (nvs N_law ds) m := by
  rintro ds m q xf ⟨ns, rfl, tb, k⟩
  have hz : sizeLine = 16777216 := sizeLine_eq
  unfold rd_law N_law
  walk_at "rd"
  refine ⟨ns, rfl, fun b hbn => ?_⟩
  have hb : mset m b (.inv Bag) b = some (.inv Bag) := mset_same
  have tb1 : Tbs lamL 5 (mset m b (.inv Bag)) := tb.set (fun q => by rw [hbn]; simp)
  generalize mset m b (.inv Bag) = m1 at hb tb1 ⊢
  refine ⟨tb1 0 (by decide), fun f0 c0 => ⟨tb1 1 (by decide), fun f1 c1 => ⟨by omega, fun P hP => ⟨⟨_, rfl⟩, ?_⟩⟩⟩⟩
  have mtP : ∀ o, Tbs lamL 5 (mset m1 P o) := fun o => tb1.set (fun q => by rw [hP]; simp)
  have mbP : ∀ o, mset m1 P o b = some (.inv Bag) := fun o => by
    rw [mset_ne (mne hb hP)]
    exact hb
  refine ⟨mtP _ 2 (by decide), fun f2 c2 => ⟨by omega, by omega, by omega, ?_⟩⟩
  have mt := mtP (.lst [.fn f0 (lamL.S 0) (lC 0) c0 [] [], .fn f1 (lamL.S 1) (lC 1) c1 [] [], .fn f2 (lamL.S 2) (lC 2) c2 [] []])
  have mb := mbP (.lst [.fn f0 (lamL.S 0) (lC 0) c0 [] [], .fn f1 (lamL.S 1) (lC 1) c1 [] [], .fn f2 (lamL.S 2) (lC 2) c2 [] []])
  have mP : mset m1 P (.lst [.fn f0 (lamL.S 0) (lC 0) c0 [] [], .fn f1 (lamL.S 1) (lC 1) c1 [] [], .fn f2 (lamL.S 2) (lC 2) c2 [] []]) P = some (.lst [.fn f0 (lamL.S 0) (lC 0) c0 [] [], .fn f1 (lamL.S 1) (lC 1) c1 [] [], .fn f2 (lamL.S 2) (lC 2) c2 [] []]) := mset_same
  generalize mset m1 P (.lst [.fn f0 (lamL.S 0) (lC 0) c0 [] [], .fn f1 (lamL.S 1) (lC 1) c1 [] [], .fn f2 (lamL.S 2) (lC 2) c2 [] []]) = m2 at mt mb mP ⊢
  refine for_step (fun xs n' m' => ∃ (y3 y4 y5 y6 y7 : Option D), n' = [some (.scr ns), some (.ref b), some (.ref P), y3, y4, y5, y6, y7] ∧ m' = m2) ?_ ?_ _ _ _ ⟨_, _, _, _, _, rfl, rfl⟩
  · rintro n' m' ⟨y3, y4, y5, y6, y7, rfl, rfl⟩
    walk_at "rd"
    refine ⟨_, rfl, any_str (by simp), false, rfl, ?_⟩
    rw [if_neg (by decide)]
    refine ⟨_, rfl, any_str (by simp), false, rfl, ?_⟩
    rw [if_neg (by decide)]
    have e : reps 2000 [114] = List.replicate 2000 114 := reps_one 2000 114
    have hr : isRowC (List.replicate 2000 114) = true := by
      unfold isRowC
      rw [List.length_replicate, Bool.and_eq_true, List.all_eq_true]
      exact ⟨by decide, fun c hc => by rw [(List.mem_replicate.mp hc).2]; decide⟩
    rw [e]
    refine ⟨⟨by omega, by omega, by omega⟩, _, rfl, any_row hr, ?_⟩
    show ∃ b_3, D.bl (!decide (isRowC (List.replicate 2000 114) = true)) = .bl b_3 ∧ _
    rw [hr]
    refine ⟨false, rfl, ?_⟩
    rw [if_neg (by decide)]
    exact ⟨b, rfl, mb, rt_same (k _)⟩
  · rintro x3 xs n' m' ⟨y3, y4, y5, y6, y7, rfl, rfl⟩ kk hkk
    walk_at "rd"
    refine ⟨b, rfl, mb, fun x wx hx => ?_⟩
    refine ⟨b, rfl, mb, fun y wy hy => ?_⟩
    refine ⟨b, 6, rfl, mb, by omega, fun rs hrs hrl => ?_⟩
    refine ⟨b, rfl, mb, fun ks hks => ?_⟩
    walk_at "rd"
    refine ⟨by omega, x, rfl, wx.any _, ?_⟩
    rw [hx]
    refine ⟨false, rfl, ?_⟩
    rw [if_neg (by decide)]
    refine ⟨y, rfl, wy.any _, ?_⟩
    rw [hy]
    refine ⟨false, rfl, ?_⟩
    rw [if_neg (by decide)]
    refine ⟨_, mP, ?_⟩
    refine forK_step (fun xs n2 mm => ∃ (y7 : Option D), (∀ d ∈ xs, Door lamL lC d) ∧ n2 = [some (.scr ns), some (.ref b), some (.ref P), some x3, some x, some y, some (.tup [.str rs, .str ks]), y7] ∧ mm = m') (fun xs n2 mm ⟨_, _, _, e⟩ => by rw [e]; exact mP) ?_ ?_ _ _ _ ⟨_, ?_, rfl, rfl⟩
    rotate_left 2
    · intro d hd
      simp only [List.mem_cons, List.not_mem_nil, or_false] at hd
      rcases hd with rfl | rfl | rfl
      all_goals exact ⟨_, _, _, rfl, by decide, by decide⟩
    · rintro n' m' ⟨y7, _, rfl, rfl⟩
      walk_at "rd"
      refine ⟨mt 3 (by decide), fun f c => ⟨by omega, f, 3, c, _, ⟨rfl, rfl⟩, by decide, fun ws => ref_row (by decide) wx.th rfl hx (fun q1 xf1 h => ⟨x, _, rfl, rfl, wx.any m', hx, h⟩) ⟨by omega, ne_tag (by decide) ⟨false, rfl, ?_⟩⟩⟩⟩
      rw [if_neg (by decide)]
      refine ⟨mt 4 (by decide), fun f c => ⟨by omega, f, 4, c, _, ⟨rfl, rfl⟩, by decide, fun ws => ref_row (by decide) wx.th rfl hx (fun q1 xf1 h => ⟨x, _, rfl, rfl, wx.any m', hx, h⟩) ⟨by omega, ne_tag (by decide) ⟨false, rfl, ?_⟩⟩⟩⟩
      rw [if_neg (by decide)]
      exact hkk _ _ ⟨_, _, _, _, _, rfl, rfl⟩
    · rintro d ds n' m' ⟨y7, hd, rfl, rfl⟩ kk2 hkk2
      obtain ⟨f, c, i, rfl, hi, hi3⟩ := hd _ List.mem_cons_self
      have hi5 : i < 5 := by omega
      have wr := wrg_row hrs
      have wk := wrg_row (kinds_row hks)
      walk_at "rd"
      refine ⟨by omega, b, 2, rfl, mb, by decide, by decide, fun u0 u00 u01 => ?_⟩
      obtain ⟨z, hz2, ez⟩ := atI_mem (L := [y, D.str ks]) u00 u01
      have wz : Wrg z := by
        simp only [List.mem_cons, List.not_mem_nil, or_false] at hz2
        rcases hz2 with rfl | rfl
        · exact wy
        · exact wk
      walk_at "rd"
      refine ⟨z, ez, by omega, f, i, c, _, ⟨rfl, rfl⟩, hi, fun ws => ?_⟩
      rw [door_js hi]
      refine ref_row hi5 wx.th wz.th hx (fun q1 xf1 h => by rw [lsp_door hi3]; exact slD_row wx wz hx h) ⟨by omega, ne_tag (by decide) ⟨false, rfl, ?_⟩⟩
      rw [if_neg (by decide)]
      refine ⟨by omega, f, i, c, _, ⟨rfl, rfl⟩, hi, fun ws => ?_⟩
      rw [door_js hi]
      refine ref_kin hi5 wr.th wy.th (fun q1 xf1 h => by rw [lsp_door hi3]; exact slD_kin wr wy hrs hy h) ⟨by omega, ne_tag (by decide) ⟨false, rfl, ?_⟩⟩
      rw [if_neg (by decide)]
      refine ⟨f, i, c, _, ⟨rfl, rfl⟩, hi, fun ws => ?_⟩
      rw [door_js hi]
      refine ref_non hi5 wr.th wk.th (fun q1 xf1 h => by rw [lsp_door hi3]; exact slD_ok wr wk hrs hks h) ⟨false, rfl, ?_⟩
      rw [if_neg (by decide)]
      exact hkk2 _ _ ⟨_, fun d hd2 => hd d (List.mem_cons_of_mem _ hd2), rfl, rfl⟩
end DL

namespace DL
open PySem PySem.Spec PyProof.Rows L2 LamX NdefX
/-! ### the text of the law -/
def topS (i : Nat) : Stmt := PySem.Challenge.pw_restbooks_k14_what_is_no_row_and_no_kind.main.body.getD i (.Pass ⟨0, 0, 0, 0⟩)
def lamS : Nat → LS := fun i => ([lsOf ((("law" : Str) ++ ".<locals>.") ++ "<lambda>") (eAt (sEx (sAt (sBody (topS 45)) 1)) 0), lsOf ((("law" : Str) ++ ".<locals>.") ++ "<lambda>") (eAt (sEx (sAt (sBody (topS 45)) 1)) 1), lsOf ((("law" : Str) ++ ".<locals>.") ++ "<lambda>") (eAt (sEx (sAt (sBody (topS 45)) 2)) 1), lsOf ((("law" : Str) ++ ".<locals>.") ++ "<lambda>") (eAt (eAt (sEx (sAt (sBody (sAt (sBody (topS 45)) 3)) 5)) 0) 1), lsOf ((("law" : Str) ++ ".<locals>.") ++ "<lambda>") (eAt (eAt (sEx (sAt (sBody (sAt (sBody (topS 45)) 3)) 6)) 0) 1)] : List LS).getD i (lsOf "" noE)
def lps : Nat → List Str := fun i => ([["_law_todo"], ["_law_pair"], ["_law_todo"], ["_law_todo"], ["_law_todo"]] : List (List Str)).getD i []
structure LawEnv (K : PySem.W.Frag) (mg : Str → Option Value) : Prop where
  nob : ∀ x ∈ (["str", "isinstance", "len", "all", "list", "abs", "int", "set", "range", "ValueError", "max"] : List Str), mg x = none
  c_MOST_UNITS : ∃ t, mg "MOST_UNITS" = some (.int 2000 t)
  c_LETTERS : ∃ t, mg "LETTERS" = some (.str ⟨([100, 119, 97, 114] : List Nat).toArray⟩ t)
  tab : Tab K
  ve : VeD K
  m_BadMost : ∃ c, mg "BadMost" = some c ∧ ClsK K "BadMost" c
  m_BadLimits : ∃ c, mg "BadLimits" = some c ∧ ClsK K "BadLimits" c
  m_BadKinds : ∃ c, mg "BadKinds" = some c ∧ ClsK K "BadKinds" c
  m_BadClosed : ∃ c, mg "BadClosed" = some c ∧ ClsK K "BadClosed" c
  m_BadReading : ∃ c, mg "BadReading" = some c ∧ ClsK K "BadReading" c
  m_BadPrices : ∃ c, mg "BadPrices" = some c ∧ ClsK K "BadPrices" c
  m_BadNeed : ∃ c, mg "BadNeed" = some c ∧ ClsK K "BadNeed" c
  m_BadName : ∃ c, mg "BadName" = some c ∧ ClsK K "BadName" c
  m_BadUnit : ∃ c, mg "BadUnit" = some c ∧ ClsK K "BadUnit" c
  m_BadText : ∃ c, mg "BadText" = some c ∧ ClsK K "BadText" c
  m_BadStops : ∃ c, mg "BadStops" = some c ∧ ClsK K "BadStops" c
  m_BadRow : ∃ c, mg "BadRow" = some c ∧ ClsK K "BadRow" c
  m_NoStand : ∃ c, mg "NoStand" = some c ∧ ClsK K "NoStand" c
  m_NoNews : ∃ c, mg "NoNews" = some c ∧ ClsK K "NoNews" c
  m_BadWays : ∃ c, mg "BadWays" = some c ∧ ClsK K "BadWays" c
  m_BadUnits : ∃ c, mg "BadUnits" = some c ∧ ClsK K "BadUnits" c
  m_TooMany : ∃ c, mg "TooMany" = some c ∧ ClsK K "TooMany" c
  m_NothingToUndo : ∃ c, mg "NothingToUndo" = some c ∧ ClsK K "NothingToUndo" c
  m_RestError : ∃ c, mg "RestError" = some c ∧ ClsK K "RestError" c
/-! ### every def keeps its word -/
abbrev si_BadRow : Stmt := inClass (topS 2) 0
theorem sci_BadRow : FnScope ["self", "given"] ["self", "given"] (defScope si_BadRow) := ⟨rfl, rfl, rfl, by decide +kernel, rfl, by decide +kernel, by decide +kernel⟩
theorem okx_BadRow {P : Program} {w : World} {K : PySem.W.Frag} {mg : Str → Option Value} {base : Heap} (B : BaseK K mg "RestError") {f : Addr} {fd : FuncData} (F : Fun K "__init__" "BadRow.__init__" si_BadRow f fd) : FnOk P w K mg base (L2.CX P w) 1 f fd ["self", "given"] (spInit K) := by
  refine F.okX sci_BadRow len_init fun cdv A outer s H vs Q E hr h => ?_
  obtain ⟨a, C, y, rfl, T, hf, ha, k⟩ := h
  refine ⟨_, pss_cons (ps_expr (pe_base B (by rfl) (by decide) (pa_cons (pv 0) (pa_cons pe_str pa_nil)))) (pss_one (ps_ost (pv 0) (pv 1))), ?_⟩
  exact ⟨_, rfl, a, C, _, rfl, by simp, T, ha, _, rfl, _, rfl, a, C, rfl, T, hf, .inl ⟨ha, fun dx hdx ne => k dx hdx ne⟩⟩
abbrev si_BadKinds : Stmt := inClass (topS 4) 0
theorem sci_BadKinds : FnScope ["self", "given"] ["self", "given"] (defScope si_BadKinds) := ⟨rfl, rfl, rfl, by decide +kernel, rfl, by decide +kernel, by decide +kernel⟩
theorem okx_BadKinds {P : Program} {w : World} {K : PySem.W.Frag} {mg : Str → Option Value} {base : Heap} (B : BaseK K mg "RestError") {f : Addr} {fd : FuncData} (F : Fun K "__init__" "BadKinds.__init__" si_BadKinds f fd) : FnOk P w K mg base (L2.CX P w) 1 f fd ["self", "given"] (spInit K) := by
  refine F.okX sci_BadKinds len_init fun cdv A outer s H vs Q E hr h => ?_
  obtain ⟨a, C, y, rfl, T, hf, ha, k⟩ := h
  refine ⟨_, pss_cons (ps_expr (pe_base B (by rfl) (by decide) (pa_cons (pv 0) (pa_cons pe_str pa_nil)))) (pss_one (ps_ost (pv 0) (pv 1))), ?_⟩
  exact ⟨_, rfl, a, C, _, rfl, by simp, T, ha, _, rfl, _, rfl, a, C, rfl, T, hf, .inl ⟨ha, fun dx hdx ne => k dx hdx ne⟩⟩
abbrev si_BadMost : Stmt := inClass (topS 5) 0
theorem sci_BadMost : FnScope ["self", "given"] ["self", "given"] (defScope si_BadMost) := ⟨rfl, rfl, rfl, by decide +kernel, rfl, by decide +kernel, by decide +kernel⟩
theorem okx_BadMost {P : Program} {w : World} {K : PySem.W.Frag} {mg : Str → Option Value} {base : Heap} (B : BaseK K mg "RestError") {f : Addr} {fd : FuncData} (F : Fun K "__init__" "BadMost.__init__" si_BadMost f fd) : FnOk P w K mg base (L2.CX P w) 1 f fd ["self", "given"] (spInit K) := by
  refine F.okX sci_BadMost len_init fun cdv A outer s H vs Q E hr h => ?_
  obtain ⟨a, C, y, rfl, T, hf, ha, k⟩ := h
  refine ⟨_, pss_cons (ps_expr (pe_base B (by rfl) (by decide) (pa_cons (pv 0) (pa_cons pe_str pa_nil)))) (pss_one (ps_ost (pv 0) (pv 1))), ?_⟩
  exact ⟨_, rfl, a, C, _, rfl, by simp, T, ha, _, rfl, _, rfl, a, C, rfl, T, hf, .inl ⟨ha, fun dx hdx ne => k dx hdx ne⟩⟩
abbrev si_BadLimits : Stmt := inClass (topS 7) 0
theorem sci_BadLimits : FnScope ["self", "given"] ["self", "given"] (defScope si_BadLimits) := ⟨rfl, rfl, rfl, by decide +kernel, rfl, by decide +kernel, by decide +kernel⟩
theorem okx_BadLimits {P : Program} {w : World} {K : PySem.W.Frag} {mg : Str → Option Value} {base : Heap} (B : BaseK K mg "RestError") {f : Addr} {fd : FuncData} (F : Fun K "__init__" "BadLimits.__init__" si_BadLimits f fd) : FnOk P w K mg base (L2.CX P w) 1 f fd ["self", "given"] (spInit K) := by
  refine F.okX sci_BadLimits len_init fun cdv A outer s H vs Q E hr h => ?_
  obtain ⟨a, C, y, rfl, T, hf, ha, k⟩ := h
  refine ⟨_, pss_cons (ps_expr (pe_base B (by rfl) (by decide) (pa_cons (pv 0) (pa_cons pe_str pa_nil)))) (pss_one (ps_ost (pv 0) (pv 1))), ?_⟩
  exact ⟨_, rfl, a, C, _, rfl, by simp, T, ha, _, rfl, _, rfl, a, C, rfl, T, hf, .inl ⟨ha, fun dx hdx ne => k dx hdx ne⟩⟩
abbrev si_BadClosed : Stmt := inClass (topS 14) 0
theorem sci_BadClosed : FnScope ["self", "given"] ["self", "given"] (defScope si_BadClosed) := ⟨rfl, rfl, rfl, by decide +kernel, rfl, by decide +kernel, by decide +kernel⟩
theorem okx_BadClosed {P : Program} {w : World} {K : PySem.W.Frag} {mg : Str → Option Value} {base : Heap} (B : BaseK K mg "RestError") {f : Addr} {fd : FuncData} (F : Fun K "__init__" "BadClosed.__init__" si_BadClosed f fd) : FnOk P w K mg base (L2.CX P w) 1 f fd ["self", "given"] (spInit K) := by
  refine F.okX sci_BadClosed len_init fun cdv A outer s H vs Q E hr h => ?_
  obtain ⟨a, C, y, rfl, T, hf, ha, k⟩ := h
  refine ⟨_, pss_cons (ps_expr (pe_base B (by rfl) (by decide) (pa_cons (pv 0) (pa_cons pe_str pa_nil)))) (pss_one (ps_ost (pv 0) (pv 1))), ?_⟩
  exact ⟨_, rfl, a, C, _, rfl, by simp, T, ha, _, rfl, _, rfl, a, C, rfl, T, hf, .inl ⟨ha, fun dx hdx ne => k dx hdx ne⟩⟩
abbrev si_BadReading : Stmt := inClass (topS 11) 0
theorem sci_BadReading : FnScope ["self", "given"] ["self", "given"] (defScope si_BadReading) := ⟨rfl, rfl, rfl, by decide +kernel, rfl, by decide +kernel, by decide +kernel⟩
theorem okx_BadReading {P : Program} {w : World} {K : PySem.W.Frag} {mg : Str → Option Value} {base : Heap} (B : BaseK K mg "RestError") {f : Addr} {fd : FuncData} (F : Fun K "__init__" "BadReading.__init__" si_BadReading f fd) : FnOk P w K mg base (L2.CX P w) 1 f fd ["self", "given"] (spInit K) := by
  refine F.okX sci_BadReading len_init fun cdv A outer s H vs Q E hr h => ?_
  obtain ⟨a, C, y, rfl, T, hf, ha, k⟩ := h
  refine ⟨_, pss_cons (ps_expr (pe_base B (by rfl) (by decide) (pa_cons (pv 0) (pa_cons pe_str pa_nil)))) (pss_one (ps_ost (pv 0) (pv 1))), ?_⟩
  exact ⟨_, rfl, a, C, _, rfl, by simp, T, ha, _, rfl, _, rfl, a, C, rfl, T, hf, .inl ⟨ha, fun dx hdx ne => k dx hdx ne⟩⟩
abbrev si_BadPrices : Stmt := inClass (topS 12) 0
theorem sci_BadPrices : FnScope ["self", "given"] ["self", "given"] (defScope si_BadPrices) := ⟨rfl, rfl, rfl, by decide +kernel, rfl, by decide +kernel, by decide +kernel⟩
theorem okx_BadPrices {P : Program} {w : World} {K : PySem.W.Frag} {mg : Str → Option Value} {base : Heap} (B : BaseK K mg "RestError") {f : Addr} {fd : FuncData} (F : Fun K "__init__" "BadPrices.__init__" si_BadPrices f fd) : FnOk P w K mg base (L2.CX P w) 1 f fd ["self", "given"] (spInit K) := by
  refine F.okX sci_BadPrices len_init fun cdv A outer s H vs Q E hr h => ?_
  obtain ⟨a, C, y, rfl, T, hf, ha, k⟩ := h
  refine ⟨_, pss_cons (ps_expr (pe_base B (by rfl) (by decide) (pa_cons (pv 0) (pa_cons pe_str pa_nil)))) (pss_one (ps_ost (pv 0) (pv 1))), ?_⟩
  exact ⟨_, rfl, a, C, _, rfl, by simp, T, ha, _, rfl, _, rfl, a, C, rfl, T, hf, .inl ⟨ha, fun dx hdx ne => k dx hdx ne⟩⟩
abbrev si_BadNeed : Stmt := inClass (topS 13) 0
theorem sci_BadNeed : FnScope ["self", "given"] ["self", "given"] (defScope si_BadNeed) := ⟨rfl, rfl, rfl, by decide +kernel, rfl, by decide +kernel, by decide +kernel⟩
theorem okx_BadNeed {P : Program} {w : World} {K : PySem.W.Frag} {mg : Str → Option Value} {base : Heap} (B : BaseK K mg "RestError") {f : Addr} {fd : FuncData} (F : Fun K "__init__" "BadNeed.__init__" si_BadNeed f fd) : FnOk P w K mg base (L2.CX P w) 1 f fd ["self", "given"] (spInit K) := by
  refine F.okX sci_BadNeed len_init fun cdv A outer s H vs Q E hr h => ?_
  obtain ⟨a, C, y, rfl, T, hf, ha, k⟩ := h
  refine ⟨_, pss_cons (ps_expr (pe_base B (by rfl) (by decide) (pa_cons (pv 0) (pa_cons pe_str pa_nil)))) (pss_one (ps_ost (pv 0) (pv 1))), ?_⟩
  exact ⟨_, rfl, a, C, _, rfl, by simp, T, ha, _, rfl, _, rfl, a, C, rfl, T, hf, .inl ⟨ha, fun dx hdx ne => k dx hdx ne⟩⟩
abbrev si_BadName : Stmt := inClass (topS 16) 0
theorem sci_BadName : FnScope ["self", "given"] ["self", "given"] (defScope si_BadName) := ⟨rfl, rfl, rfl, by decide +kernel, rfl, by decide +kernel, by decide +kernel⟩
theorem okx_BadName {P : Program} {w : World} {K : PySem.W.Frag} {mg : Str → Option Value} {base : Heap} (B : BaseK K mg "RestError") {f : Addr} {fd : FuncData} (F : Fun K "__init__" "BadName.__init__" si_BadName f fd) : FnOk P w K mg base (L2.CX P w) 1 f fd ["self", "given"] (spInit K) := by
  refine F.okX sci_BadName len_init fun cdv A outer s H vs Q E hr h => ?_
  obtain ⟨a, C, y, rfl, T, hf, ha, k⟩ := h
  refine ⟨_, pss_cons (ps_expr (pe_base B (by rfl) (by decide) (pa_cons (pv 0) (pa_cons pe_str pa_nil)))) (pss_one (ps_ost (pv 0) (pv 1))), ?_⟩
  exact ⟨_, rfl, a, C, _, rfl, by simp, T, ha, _, rfl, _, rfl, a, C, rfl, T, hf, .inl ⟨ha, fun dx hdx ne => k dx hdx ne⟩⟩
abbrev si_BadUnit : Stmt := inClass (topS 8) 0
theorem sci_BadUnit : FnScope ["self", "given"] ["self", "given"] (defScope si_BadUnit) := ⟨rfl, rfl, rfl, by decide +kernel, rfl, by decide +kernel, by decide +kernel⟩
theorem okx_BadUnit {P : Program} {w : World} {K : PySem.W.Frag} {mg : Str → Option Value} {base : Heap} (B : BaseK K mg "RestError") {f : Addr} {fd : FuncData} (F : Fun K "__init__" "BadUnit.__init__" si_BadUnit f fd) : FnOk P w K mg base (L2.CX P w) 1 f fd ["self", "given"] (spInit K) := by
  refine F.okX sci_BadUnit len_init fun cdv A outer s H vs Q E hr h => ?_
  obtain ⟨a, C, y, rfl, T, hf, ha, k⟩ := h
  refine ⟨_, pss_cons (ps_expr (pe_base B (by rfl) (by decide) (pa_cons (pv 0) (pa_cons pe_str pa_nil)))) (pss_one (ps_ost (pv 0) (pv 1))), ?_⟩
  exact ⟨_, rfl, a, C, _, rfl, by simp, T, ha, _, rfl, _, rfl, a, C, rfl, T, hf, .inl ⟨ha, fun dx hdx ne => k dx hdx ne⟩⟩
abbrev si_BadText : Stmt := inClass (topS 3) 0
theorem sci_BadText : FnScope ["self", "given"] ["self", "given"] (defScope si_BadText) := ⟨rfl, rfl, rfl, by decide +kernel, rfl, by decide +kernel, by decide +kernel⟩
theorem okx_BadText {P : Program} {w : World} {K : PySem.W.Frag} {mg : Str → Option Value} {base : Heap} (B : BaseK K mg "RestError") {f : Addr} {fd : FuncData} (F : Fun K "__init__" "BadText.__init__" si_BadText f fd) : FnOk P w K mg base (L2.CX P w) 1 f fd ["self", "given"] (spInit K) := by
  refine F.okX sci_BadText len_init fun cdv A outer s H vs Q E hr h => ?_
  obtain ⟨a, C, y, rfl, T, hf, ha, k⟩ := h
  refine ⟨_, pss_cons (ps_expr (pe_base B (by rfl) (by decide) (pa_cons (pv 0) (pa_cons pe_str pa_nil)))) (pss_one (ps_ost (pv 0) (pv 1))), ?_⟩
  exact ⟨_, rfl, a, C, _, rfl, by simp, T, ha, _, rfl, _, rfl, a, C, rfl, T, hf, .inl ⟨ha, fun dx hdx ne => k dx hdx ne⟩⟩
abbrev si_BadStops : Stmt := inClass (topS 15) 0
theorem sci_BadStops : FnScope ["self", "given"] ["self", "given"] (defScope si_BadStops) := ⟨rfl, rfl, rfl, by decide +kernel, rfl, by decide +kernel, by decide +kernel⟩
theorem okx_BadStops {P : Program} {w : World} {K : PySem.W.Frag} {mg : Str → Option Value} {base : Heap} (B : BaseK K mg "RestError") {f : Addr} {fd : FuncData} (F : Fun K "__init__" "BadStops.__init__" si_BadStops f fd) : FnOk P w K mg base (L2.CX P w) 1 f fd ["self", "given"] (spInit K) := by
  refine F.okX sci_BadStops len_init fun cdv A outer s H vs Q E hr h => ?_
  obtain ⟨a, C, y, rfl, T, hf, ha, k⟩ := h
  refine ⟨_, pss_cons (ps_expr (pe_base B (by rfl) (by decide) (pa_cons (pv 0) (pa_cons pe_str pa_nil)))) (pss_one (ps_ost (pv 0) (pv 1))), ?_⟩
  exact ⟨_, rfl, a, C, _, rfl, by simp, T, ha, _, rfl, _, rfl, a, C, rfl, T, hf, .inl ⟨ha, fun dx hdx ne => k dx hdx ne⟩⟩
abbrev si_NoStand : Stmt := inClass (topS 9) 0
theorem sci_NoStand : FnScope ["self", "given"] ["self", "given"] (defScope si_NoStand) := ⟨rfl, rfl, rfl, by decide +kernel, rfl, by decide +kernel, by decide +kernel⟩
theorem okx_NoStand {P : Program} {w : World} {K : PySem.W.Frag} {mg : Str → Option Value} {base : Heap} (B : BaseK K mg "RestError") {f : Addr} {fd : FuncData} (F : Fun K "__init__" "NoStand.__init__" si_NoStand f fd) : FnOk P w K mg base (L2.CX P w) 1 f fd ["self", "given"] (spInit K) := by
  refine F.okX sci_NoStand len_init fun cdv A outer s H vs Q E hr h => ?_
  obtain ⟨a, C, y, rfl, T, hf, ha, k⟩ := h
  refine ⟨_, pss_cons (ps_expr (pe_base B (by rfl) (by decide) (pa_cons (pv 0) (pa_cons pe_str pa_nil)))) (pss_one (ps_ost (pv 0) (pv 1))), ?_⟩
  exact ⟨_, rfl, a, C, _, rfl, by simp, T, ha, _, rfl, _, rfl, a, C, rfl, T, hf, .inl ⟨ha, fun dx hdx ne => k dx hdx ne⟩⟩
abbrev si_NoNews : Stmt := inClass (topS 17) 0
theorem sci_NoNews : FnScope ["self", "given"] ["self", "given"] (defScope si_NoNews) := ⟨rfl, rfl, rfl, by decide +kernel, rfl, by decide +kernel, by decide +kernel⟩
theorem okx_NoNews {P : Program} {w : World} {K : PySem.W.Frag} {mg : Str → Option Value} {base : Heap} (B : BaseK K mg "RestError") {f : Addr} {fd : FuncData} (F : Fun K "__init__" "NoNews.__init__" si_NoNews f fd) : FnOk P w K mg base (L2.CX P w) 1 f fd ["self", "given"] (spInit K) := by
  refine F.okX sci_NoNews len_init fun cdv A outer s H vs Q E hr h => ?_
  obtain ⟨a, C, y, rfl, T, hf, ha, k⟩ := h
  refine ⟨_, pss_cons (ps_expr (pe_base B (by rfl) (by decide) (pa_cons (pv 0) (pa_cons pe_str pa_nil)))) (pss_one (ps_ost (pv 0) (pv 1))), ?_⟩
  exact ⟨_, rfl, a, C, _, rfl, by simp, T, ha, _, rfl, _, rfl, a, C, rfl, T, hf, .inl ⟨ha, fun dx hdx ne => k dx hdx ne⟩⟩
abbrev si_BadWays : Stmt := inClass (topS 6) 0
theorem sci_BadWays : FnScope ["self", "given"] ["self", "given"] (defScope si_BadWays) := ⟨rfl, rfl, rfl, by decide +kernel, rfl, by decide +kernel, by decide +kernel⟩
theorem okx_BadWays {P : Program} {w : World} {K : PySem.W.Frag} {mg : Str → Option Value} {base : Heap} (B : BaseK K mg "RestError") {f : Addr} {fd : FuncData} (F : Fun K "__init__" "BadWays.__init__" si_BadWays f fd) : FnOk P w K mg base (L2.CX P w) 1 f fd ["self", "given"] (spInit K) := by
  refine F.okX sci_BadWays len_init fun cdv A outer s H vs Q E hr h => ?_
  obtain ⟨a, C, y, rfl, T, hf, ha, k⟩ := h
  refine ⟨_, pss_cons (ps_expr (pe_base B (by rfl) (by decide) (pa_cons (pv 0) (pa_cons pe_str pa_nil)))) (pss_one (ps_ost (pv 0) (pv 1))), ?_⟩
  exact ⟨_, rfl, a, C, _, rfl, by simp, T, ha, _, rfl, _, rfl, a, C, rfl, T, hf, .inl ⟨ha, fun dx hdx ne => k dx hdx ne⟩⟩
abbrev si_BadUnits : Stmt := inClass (topS 10) 0
theorem sci_BadUnits : FnScope ["self", "given"] ["self", "given"] (defScope si_BadUnits) := ⟨rfl, rfl, rfl, by decide +kernel, rfl, by decide +kernel, by decide +kernel⟩
theorem okx_BadUnits {P : Program} {w : World} {K : PySem.W.Frag} {mg : Str → Option Value} {base : Heap} (B : BaseK K mg "RestError") {f : Addr} {fd : FuncData} (F : Fun K "__init__" "BadUnits.__init__" si_BadUnits f fd) : FnOk P w K mg base (L2.CX P w) 1 f fd ["self", "given"] (spInit K) := by
  refine F.okX sci_BadUnits len_init fun cdv A outer s H vs Q E hr h => ?_
  obtain ⟨a, C, y, rfl, T, hf, ha, k⟩ := h
  refine ⟨_, pss_cons (ps_expr (pe_base B (by rfl) (by decide) (pa_cons (pv 0) (pa_cons pe_str pa_nil)))) (pss_one (ps_ost (pv 0) (pv 1))), ?_⟩
  exact ⟨_, rfl, a, C, _, rfl, by simp, T, ha, _, rfl, _, rfl, a, C, rfl, T, hf, .inl ⟨ha, fun dx hdx ne => k dx hdx ne⟩⟩
abbrev s_is_row : Stmt := topS 23
theorem sc_is_row : FnScope N_is_row ["value"] (defScope s_is_row) := ⟨rfl, rfl, rfl, by decide +kernel, rfl, by decide +kernel, by decide +kernel⟩
theorem ok_is_row {P : Program} {w : World} {K : PySem.W.Frag} {mg : Str → Option Value} {base : Heap} (E : LawEnv K mg) {f : Addr} {fd : FuncData} (F : Fun K "is_row" "is_row" s_is_row f fd) : FnD P w K mg base 1 f fd ["value"] sp_is_row := by
  have nob := E.nob
  refine fnS F sc_is_row rl_is_row fun cdv A outer s H Ex hr => ⟨rd_is_row, ?_, rp_is_row⟩
  have nd := sc_is_row.nd
  have po : PassesOwn (model P w) (cxOf (L2.CX P w) P w K mg base N_is_row "is_row" (defScope s_is_row) f cdv A outer s H Ex).A (cxOf (L2.CX P w) P w K mg base N_is_row "is_row" (defScope s_is_row) f cdv A outer s H Ex).env (cxOf (L2.CX P w) P w K mg base N_is_row "is_row" (defScope s_is_row) f cdv A outer s H Ex).xe := passes_of rfl
  have tk : Takes (cxOf (L2.CX P w) P w K mg base N_is_row "is_row" (defScope s_is_row) f cdv A outer s H Ex) (WF Ex) := takes_of rfl rfl rfl rfl
  exact ds_cons (ds_if (DW.t (dw_or (dt_not (dt_val (de_callB cd_isi (by rfl) (nob "isinstance" (by decide)) bt_isinstance (da_cons (dv 0) (da_cons (de_bltn (v := .ty "str") (by rfl) (nob "str" (by decide)) bt_str rfl (fun _ => .ty _)) (da_nil)))))) (dw_or1 (dt_cmp od_gt (de_callB cd_len (by rfl) (nob "len" (by decide)) bt_len (da_cons (dv 0) (da_nil))) (de_gint (by rfl) E.c_MOST_UNITS) (nomark _))))) (ds_one (ds_ret (de_bl))) (ds_nil))
    (ds_one (ds_ret (de_callB (cd_all rfl) (by rfl) (nob "all" (by decide)) bt_all (da_cons (de_lc rfl nd (di_any (dv 0)) (blkOk_by (own := [("unit", 1)]) (N := N_is_row) (sc := defScope s_is_row) (by decide +kernel)) rfl rfl (fun _ _ _ _ _ => dg_nm (i := 1) nd rfl (by first | exact Or.inl rfl | exact Or.inr rfl)) (fun _ _ _ _ _ => dts_nil) (fun _ _ _ _ _ => de_cmp od_in (dv 1) (de_gstr (by rfl) E.c_LETTERS) (by rfl))) (da_nil)))))

abbrev s__law_bag : Stmt := topS 33
theorem sc__law_bag : FnScope N__law_bag ["_law_script"] (defScope s__law_bag) := ⟨rfl, rfl, rfl, by decide +kernel, rfl, by decide +kernel, by decide +kernel⟩
theorem ok__law_bag {P : Program} {w : World} {K : PySem.W.Frag} {mg : Str → Option Value} {base : Heap} (E : LawEnv K mg) {f : Addr} {fd : FuncData} (F : Fun K "_law_bag" "_law_bag" s__law_bag f fd) : FnD P w K mg base 1 f fd ["_law_script"] sp__law_bag := by
  have nob := E.nob
  refine fnS F sc__law_bag rl__law_bag fun cdv A outer s H Ex hr => ⟨rd__law_bag, ?_, rp__law_bag⟩
  have nd := sc__law_bag.nd
  have po : PassesOwn (model P w) (cxOf (L2.CX P w) P w K mg base N__law_bag "_law_bag" (defScope s__law_bag) f cdv A outer s H Ex).A (cxOf (L2.CX P w) P w K mg base N__law_bag "_law_bag" (defScope s__law_bag) f cdv A outer s H Ex).env (cxOf (L2.CX P w) P w K mg base N__law_bag "_law_bag" (defScope s__law_bag) f cdv A outer s H Ex).xe := passes_of rfl
  have tk : Takes (cxOf (L2.CX P w) P w K mg base N__law_bag "_law_bag" (defScope s__law_bag) f cdv A outer s H Ex) (WF Ex) := takes_of rfl rfl rfl rfl
  exact ds_one (ds_ret (de_lstO (da_cons (de_callTy (cd_listA rfl) (by rfl) (nob "list" (by decide)) bt_list (da_cons (dv 0) (da_nil))) (da_cons (de_int) (da_cons (de_int) (da_cons (de_int) (da_cons (de_int) (da_nil))))))))

abbrev s__law_draw : Stmt := topS 34
theorem sc__law_draw : FnScope N__law_draw ["_law_bag_here", "_law_size"] (defScope s__law_draw) := ⟨rfl, rfl, rfl, by decide +kernel, rfl, by decide +kernel, by decide +kernel⟩
theorem ok__law_draw {P : Program} {w : World} {K : PySem.W.Frag} {mg : Str → Option Value} {base : Heap} (E : LawEnv K mg) {f : Addr} {fd : FuncData} (F : Fun K "_law_draw" "_law_draw" s__law_draw f fd) : FnD P w K mg base 1 f fd ["_law_bag_here", "_law_size"] sp__law_draw := by
  have nob := E.nob
  refine fnSo F sc__law_draw rl__law_draw fun cdv A outer s H Ex hr => ⟨rd__law_draw, ?_, rp__law_draw⟩
  have nd := sc__law_draw.nd
  have po : PassesOwn (model P w) (cxOf (L2.CX P w) P w K mg base N__law_draw "_law_draw" (defScope s__law_draw) f cdv A outer s H Ex).A (cxOf (L2.CX P w) P w K mg base N__law_draw "_law_draw" (defScope s__law_draw) f cdv A outer s H Ex).env (cxOf (L2.CX P w) P w K mg base N__law_draw "_law_draw" (defScope s__law_draw) f cdv A outer s H Ex).xe := passes_of rfl
  have tk : Takes (cxOf (L2.CX P w) P w K mg base N__law_draw "_law_draw" (defScope s__law_draw) f cdv A outer s H Ex) (WF Ex) := takes_of rfl rfl rfl rfl
  exact ds_cons (ds_setIx (dv 0) (de_int) (de_op od_add (de_ix (dv 0) (de_int) (fun _ _ => rfl)) (de_int)))
    (ds_cons (ds_if (DW.t (dw_and (dt_cmp (odEq hr.units) (de_ix (dv 0) (de_int) (fun _ _ => rfl)) (de_int) (nomark _)) (dw_and1 (dt_cmp od_lt (de_ix (dv 0) (de_int) (fun _ _ => rfl)) (de_callB cd_len (by rfl) (nob "len" (by decide)) bt_len (da_cons (de_ix (dv 0) (de_int) (fun _ _ => rfl)) (da_nil))) (nomark _))))) (ds_cons (ds_set (i := 2) nd rfl (by first | exact Or.inl rfl | exact Or.inr rfl) (de_ix (de_ix (dv 0) (de_int) (fun _ _ => rfl)) (de_ix (dv 0) (de_int) (fun _ _ => rfl)) (fun _ _ => rfl)))
    (ds_cons (ds_setIx (dv 0) (de_int) (de_op od_add (de_ix (dv 0) (de_int) (fun _ _ => rfl)) (de_int)))
    (ds_cons (ds_setIx (dv 0) (de_int) (de_op od_mul (de_op od_add (de_op od_mul (de_int) (de_callB cd_abs (by rfl) (nob "abs" (by decide)) bt_abs (da_cons (dv 2) (da_nil)))) (de_callTy cd_int (by rfl) (nob "int" (by decide)) bt_int (da_cons (de_cmp od_lt (dv 2) (de_int) (nomark _)) (da_nil)))) (de_callTy cd_int (by rfl) (nob "int" (by decide)) bt_int (da_cons (de_cmp od_ge (de_callB cd_abs (by rfl) (nob "abs" (by decide)) bt_abs (da_cons (dv 2) (da_nil))) (de_op od_pow (de_int) (de_int)) (nomark _)) (da_nil)))))
    (ds_one (ds_setIx (dv 0) (de_int) (de_op od_mod (de_callTy cd_int (by rfl) (nob "int" (by decide)) bt_int (da_cons (de_op od_add (de_op od_add (de_op od_mul (de_ix (dv 0) (de_int) (fun _ _ => rfl)) (de_int)) (de_op od_mul (dv 2) (de_int))) (de_int)) (da_nil))) (de_int))))))) (ds_nil))
    (ds_cons (ds_set (i := 3) nd rfl (by first | exact Or.inl rfl | exact Or.inr rfl) (de_op od_mod (de_callTy cd_int (by rfl) (nob "int" (by decide)) bt_int (da_cons (de_ix (dv 0) (de_int) (fun _ _ => rfl)) (da_nil))) (dv 1)))
    (ds_cons (ds_if (dt_cmp od_gt (de_ix (dv 0) (de_int) (fun _ _ => rfl)) (de_int) (nomark _)) (ds_cons (ds_setIx (dv 0) (de_int) (de_op od_fdiv (de_ix (dv 0) (de_int) (fun _ _ => rfl)) (dv 1)))
    (ds_one (ds_ret (dv 3)))) (ds_nil))
    (ds_cons (ds_set (i := 4) nd rfl (by first | exact Or.inl rfl | exact Or.inr rfl) (de_op od_mod (de_callTy cd_int (by rfl) (nob "int" (by decide)) bt_int (da_cons (de_op od_add (de_ix (dv 0) (de_int) (fun _ _ => rfl)) (de_op od_mul (de_ix (dv 0) (de_int) (fun _ _ => rfl)) (de_int))) (da_nil))) (de_int)))
    (ds_cons (ds_set (i := 4) nd rfl (by first | exact Or.inl rfl | exact Or.inr rfl) (de_op od_mod (de_callTy cd_int (by rfl) (nob "int" (by decide)) bt_int (da_cons (de_op od_add (de_op od_add (de_op od_pow (dv 4) (de_int)) (de_op od_mul (de_ix (dv 0) (de_int) (fun _ _ => rfl)) (de_int))) (de_int)) (da_nil))) (de_int)))
    (ds_one (ds_ret (de_op od_mod (de_op od_fdiv (de_op od_mod (de_callTy cd_int (by rfl) (nob "int" (by decide)) bt_int (da_cons (de_op od_pow (dv 4) (de_int)) (da_nil))) (de_int)) (de_int)) (dv 1)))))))))

abbrev s__law_classes : Stmt := topS 43
theorem sc__law_classes : FnScope N__law_classes ["_law_e"] (defScope s__law_classes) := ⟨rfl, rfl, rfl, by decide +kernel, rfl, by decide +kernel, by decide +kernel⟩
theorem ok__law_classes {P : Program} {w : World} {K : PySem.W.Frag} {mg : Str → Option Value} {base : Heap} (E : LawEnv K mg) {f : Addr} {fd : FuncData} (F : Fun K "_law_classes" "_law_classes" s__law_classes f fd) : FnD P w K mg base 1 f fd ["_law_e"] sp__law_classes := by
  have nob := E.nob
  refine fnS F sc__law_classes rl__law_classes fun cdv A outer s H Ex hr => ⟨rd__law_classes, ?_, rp__law_classes⟩
  have nd := sc__law_classes.nd
  have po : PassesOwn (model P w) (cxOf (L2.CX P w) P w K mg base N__law_classes "_law_classes" (defScope s__law_classes) f cdv A outer s H Ex).A (cxOf (L2.CX P w) P w K mg base N__law_classes "_law_classes" (defScope s__law_classes) f cdv A outer s H Ex).env (cxOf (L2.CX P w) P w K mg base N__law_classes "_law_classes" (defScope s__law_classes) f cdv A outer s H Ex).xe := passes_of rfl
  have tk : Takes (cxOf (L2.CX P w) P w K mg base N__law_classes "_law_classes" (defScope s__law_classes) f cdv A outer s H Ex) (WF Ex) := takes_of rfl rfl rfl rfl
  exact ds_cons (ds_set (i := 1) nd rfl (by first | exact Or.inl rfl | exact Or.inr rfl) (de_lst (da_cons (de_isv E.tab E.m_BadClosed (by rfl) (by rfl) (nob "isinstance" (by decide)) (dv 0)) (da_cons (de_isv E.tab E.m_BadKinds (by rfl) (by rfl) (nob "isinstance" (by decide)) (dv 0)) (da_cons (de_isv E.tab E.m_BadLimits (by rfl) (by rfl) (nob "isinstance" (by decide)) (dv 0)) (da_cons (de_isv E.tab E.m_BadMost (by rfl) (by rfl) (nob "isinstance" (by decide)) (dv 0)) (da_nil)))))))
    (ds_cons (ds_set (i := 1) nd rfl (by first | exact Or.inl rfl | exact Or.inr rfl) (de_op od_add (dv 1) (de_lst (da_cons (de_isv E.tab E.m_BadName (by rfl) (by rfl) (nob "isinstance" (by decide)) (dv 0)) (da_cons (de_isv E.tab E.m_BadNeed (by rfl) (by rfl) (nob "isinstance" (by decide)) (dv 0)) (da_cons (de_isv E.tab E.m_BadPrices (by rfl) (by rfl) (nob "isinstance" (by decide)) (dv 0)) (da_cons (de_isv E.tab E.m_BadReading (by rfl) (by rfl) (nob "isinstance" (by decide)) (dv 0)) (da_nil))))))))
    (ds_cons (ds_set (i := 1) nd rfl (by first | exact Or.inl rfl | exact Or.inr rfl) (de_op od_add (dv 1) (de_lst (da_cons (de_isv E.tab E.m_BadRow (by rfl) (by rfl) (nob "isinstance" (by decide)) (dv 0)) (da_cons (de_isv E.tab E.m_BadStops (by rfl) (by rfl) (nob "isinstance" (by decide)) (dv 0)) (da_cons (de_isv E.tab E.m_BadText (by rfl) (by rfl) (nob "isinstance" (by decide)) (dv 0)) (da_cons (de_isv E.tab E.m_BadUnit (by rfl) (by rfl) (nob "isinstance" (by decide)) (dv 0)) (da_nil))))))))
    (ds_cons (ds_set (i := 1) nd rfl (by first | exact Or.inl rfl | exact Or.inr rfl) (de_op od_add (dv 1) (de_lst (da_cons (de_isv E.tab E.m_BadUnits (by rfl) (by rfl) (nob "isinstance" (by decide)) (dv 0)) (da_cons (de_isv E.tab E.m_BadWays (by rfl) (by rfl) (nob "isinstance" (by decide)) (dv 0)) (da_cons (de_isv E.tab E.m_NoNews (by rfl) (by rfl) (nob "isinstance" (by decide)) (dv 0)) (da_cons (de_isv E.tab E.m_NoStand (by rfl) (by rfl) (nob "isinstance" (by decide)) (dv 0)) (da_nil))))))))
    (ds_cons (ds_set (i := 1) nd rfl (by first | exact Or.inl rfl | exact Or.inr rfl) (de_op od_add (dv 1) (de_lst (da_cons (de_isv E.tab E.m_NothingToUndo (by rfl) (by rfl) (nob "isinstance" (by decide)) (dv 0)) (da_cons (de_isv E.tab E.m_TooMany (by rfl) (by rfl) (nob "isinstance" (by decide)) (dv 0)) (da_nil))))))
    (ds_one (ds_ret (de_callB cd_len (by rfl) (nob "len" (by decide)) bt_len (da_cons (de_lc rfl nd (di_any (dv 1)) (blkOk_by (own := [("_law_item", 2)]) (N := N__law_classes) (sc := defScope s__law_classes) (by decide +kernel)) rfl rfl (fun _ _ _ _ _ => dg_nm (i := 2) nd rfl (by first | exact Or.inl rfl | exact Or.inr rfl)) (fun _ _ _ _ _ => dts_one (dt_val (dv 2))) (fun _ _ _ _ _ => dv 2)) (da_nil)))))))))

abbrev s_is_kinds : Stmt := topS 24
theorem sc_is_kinds : FnScope N_is_kinds ["value"] (defScope s_is_kinds) := ⟨rfl, rfl, rfl, by decide +kernel, rfl, by decide +kernel, by decide +kernel⟩
theorem ok_is_kinds {P : Program} {w : World} {K : PySem.W.Frag} {mg : Str → Option Value} {base : Heap} (E : LawEnv K mg) {f : Addr} {fd : FuncData} (c_is_row : CalD P w K mg base 1 "is_row" ["value"] sp_is_row) (F : Fun K "is_kinds" "is_kinds" s_is_kinds f fd) : FnD P w K mg base 2 f fd ["value"] sp_is_kinds := by
  have nob := E.nob
  refine fnS F sc_is_kinds rl_is_kinds fun cdv A outer s H Ex hr => ⟨rd_is_kinds, ?_, rp_is_kinds⟩
  have nd := sc_is_kinds.nd
  have po : PassesOwn (model P w) (cxOf (L2.CX P w) P w K mg base N_is_kinds "is_kinds" (defScope s_is_kinds) f cdv A outer s H Ex).A (cxOf (L2.CX P w) P w K mg base N_is_kinds "is_kinds" (defScope s_is_kinds) f cdv A outer s H Ex).env (cxOf (L2.CX P w) P w K mg base N_is_kinds "is_kinds" (defScope s_is_kinds) f cdv A outer s H Ex).xe := passes_of rfl
  have tk : Takes (cxOf (L2.CX P w) P w K mg base N_is_kinds "is_kinds" (defScope s_is_kinds) f cdv A outer s H Ex) (WF Ex) := takes_of rfl rfl rfl rfl
  exact ds_one (ds_ret (de_and (de_c1 c_is_row hr (by decide) (by rfl) (fun σ => passAt tk σ) (da_cons (dv 0) (da_nil))) (de_and (de_chain od_le od_le (de_int) (de_callB cd_len (by rfl) (nob "len" (by decide)) bt_len (da_cons (dv 0) (da_nil))) (de_callB cd_len (by rfl) (nob "len" (by decide)) bt_len (da_cons (de_gstr (by rfl) E.c_LETTERS) (da_nil)))) (de_one (de_cmp (odEq hr.units) (de_lenSet rfl (by rfl) (nob "len" (by decide)) (by rfl) (nob "set" (by decide)) (dv 0)) (de_callB cd_len (by rfl) (nob "len" (by decide)) bt_len (da_cons (dv 0) (da_nil))) (nomark _))))))

abbrev s__law_pick : Stmt := topS 35
theorem sc__law_pick : FnScope N__law_pick ["_law_bag_here", "_law_items"] (defScope s__law_pick) := ⟨rfl, rfl, rfl, by decide +kernel, rfl, by decide +kernel, by decide +kernel⟩
theorem ok__law_pick {P : Program} {w : World} {K : PySem.W.Frag} {mg : Str → Option Value} {base : Heap} (E : LawEnv K mg) {f : Addr} {fd : FuncData} (c__law_draw : CalD P w K mg base 1 "_law_draw" ["_law_bag_here", "_law_size"] sp__law_draw) (F : Fun K "_law_pick" "_law_pick" s__law_pick f fd) : FnD P w K mg base 2 f fd ["_law_bag_here", "_law_items"] sp__law_pick := by
  have nob := E.nob
  refine fnS F sc__law_pick rl__law_pick fun cdv A outer s H Ex hr => ⟨rd__law_pick, ?_, rp__law_pick⟩
  have nd := sc__law_pick.nd
  have po : PassesOwn (model P w) (cxOf (L2.CX P w) P w K mg base N__law_pick "_law_pick" (defScope s__law_pick) f cdv A outer s H Ex).A (cxOf (L2.CX P w) P w K mg base N__law_pick "_law_pick" (defScope s__law_pick) f cdv A outer s H Ex).env (cxOf (L2.CX P w) P w K mg base N__law_pick "_law_pick" (defScope s__law_pick) f cdv A outer s H Ex).xe := passes_of rfl
  have tk : Takes (cxOf (L2.CX P w) P w K mg base N__law_pick "_law_pick" (defScope s__law_pick) f cdv A outer s H Ex) (WF Ex) := takes_of rfl rfl rfl rfl
  exact ds_one (ds_ret (de_ix (dv 1) (de_c1 c__law_draw hr (by decide) (by rfl) (fun σ => passAt tk σ) (da_cons (dv 0) (da_cons (de_callB cd_len (by rfl) (nob "len" (by decide)) bt_len (da_cons (dv 1) (da_nil))) (da_nil)))) (fun _ _ => rfl)))

abbrev s__law_mixed : Stmt := topS 36
theorem sc__law_mixed : FnScope N__law_mixed ["_law_bag_here", "_law_items"] (defScope s__law_mixed) := ⟨rfl, rfl, rfl, by decide +kernel, rfl, by decide +kernel, by decide +kernel⟩
theorem ok__law_mixed {P : Program} {w : World} {K : PySem.W.Frag} {mg : Str → Option Value} {base : Heap} (E : LawEnv K mg) {f : Addr} {fd : FuncData} (c__law_draw : CalD P w K mg base 1 "_law_draw" ["_law_bag_here", "_law_size"] sp__law_draw) (F : Fun K "_law_mixed" "_law_mixed" s__law_mixed f fd) : FnD P w K mg base 2 f fd ["_law_bag_here", "_law_items"] sp__law_mixed := by
  have nob := E.nob
  refine fnS F sc__law_mixed rl__law_mixed fun cdv A outer s H Ex hr => ⟨rd__law_mixed, ?_, rp__law_mixed⟩
  have nd := sc__law_mixed.nd
  have po : PassesOwn (model P w) (cxOf (L2.CX P w) P w K mg base N__law_mixed "_law_mixed" (defScope s__law_mixed) f cdv A outer s H Ex).A (cxOf (L2.CX P w) P w K mg base N__law_mixed "_law_mixed" (defScope s__law_mixed) f cdv A outer s H Ex).env (cxOf (L2.CX P w) P w K mg base N__law_mixed "_law_mixed" (defScope s__law_mixed) f cdv A outer s H Ex).xe := passes_of rfl
  have tk : Takes (cxOf (L2.CX P w) P w K mg base N__law_mixed "_law_mixed" (defScope s__law_mixed) f cdv A outer s H Ex) (WF Ex) := takes_of rfl rfl rfl rfl
  exact ds_cons (ds_set (i := 2) nd rfl (by first | exact Or.inl rfl | exact Or.inr rfl) (de_callTy (cd_listAO rfl) (by rfl) (nob "list" (by decide)) bt_list (da_cons (dv 1) (da_nil))))
    (ds_cons (ds_set (i := 3) nd rfl (by first | exact Or.inl rfl | exact Or.inr rfl) (de_lstO (da_nil)))
    (ds_cons (ds_for po rfl (di_range1 (by rfl) (nob "range" (by decide)) (da_cons (de_callB cd_len (by rfl) (nob "len" (by decide)) bt_len (da_cons (dv 1) (da_nil))) (da_nil))) (dg_nm (i := 4) nd rfl (by first | exact Or.inl rfl | exact Or.inr rfl)) (ds_one (ds_expr (de_lm PySem.F.slot_list_append PySem.F.type_list_append md_append (dv 3) (da_cons (de_lm PySem.F.slot_list_pop PySem.F.type_list_pop md_popAt (dv 2) (da_cons (de_c1 c__law_draw hr (by decide) (by rfl) (fun σ => passAt tk σ) (da_cons (dv 0) (da_cons (de_callB cd_len (by rfl) (nob "len" (by decide)) bt_len (da_cons (dv 2) (da_nil))) (da_nil)))) (da_nil))) (da_nil))))))
    (ds_one (ds_ret (dv 3)))))

abbrev s__law_row : Stmt := topS 38
theorem sc__law_row : FnScope N__law_row ["_law_bag_here", "_law_most"] (defScope s__law_row) := ⟨rfl, rfl, rfl, by decide +kernel, rfl, by decide +kernel, by decide +kernel⟩
theorem ok__law_row {P : Program} {w : World} {K : PySem.W.Frag} {mg : Str → Option Value} {base : Heap} (E : LawEnv K mg) {f : Addr} {fd : FuncData} (c__law_draw : CalD P w K mg base 1 "_law_draw" ["_law_bag_here", "_law_size"] sp__law_draw) (F : Fun K "_law_row" "_law_row" s__law_row f fd) : FnD P w K mg base 2 f fd ["_law_bag_here", "_law_most"] sp__law_row := by
  have nob := E.nob
  refine fnS F sc__law_row rl__law_row fun cdv A outer s H Ex hr => ⟨rd__law_row, ?_, rp__law_row⟩
  have nd := sc__law_row.nd
  have po : PassesOwn (model P w) (cxOf (L2.CX P w) P w K mg base N__law_row "_law_row" (defScope s__law_row) f cdv A outer s H Ex).A (cxOf (L2.CX P w) P w K mg base N__law_row "_law_row" (defScope s__law_row) f cdv A outer s H Ex).env (cxOf (L2.CX P w) P w K mg base N__law_row "_law_row" (defScope s__law_row) f cdv A outer s H Ex).xe := passes_of rfl
  have tk : Takes (cxOf (L2.CX P w) P w K mg base N__law_row "_law_row" (defScope s__law_row) f cdv A outer s H Ex) (WF Ex) := takes_of rfl rfl rfl rfl
  exact ds_cons (ds_set (i := 2) nd rfl (by first | exact Or.inl rfl | exact Or.inr rfl) (de_ix (de_lst (da_cons (de_str [100, 119, 97, 114]) (da_cons (de_str [100, 114]) (da_cons (de_str [100, 100, 119, 114]) (da_cons (de_str [100, 114, 114]) (da_nil)))))) (de_c1 c__law_draw hr (by decide) (by rfl) (fun σ => passAt tk σ) (da_cons (dv 0) (da_cons (de_int) (da_nil)))) (fun _ _ => rfl)))
    (ds_one (ds_ret (de_sm PySem.F.slot_str_join PySem.F.type_str_join md_join (de_str []) (da_cons (de_lc rfl nd (di_range1 (by rfl) (nob "range" (by decide)) (da_cons (de_c1 c__law_draw hr (by decide) (by rfl) (fun σ => passAt tk σ) (da_cons (dv 0) (da_cons (de_op od_add (dv 1) (de_int)) (da_nil)))) (da_nil))) (blkOk_by (own := [("_law_k", 3)]) (N := N__law_row) (sc := defScope s__law_row) (by decide +kernel)) rfl rfl (fun _ _ _ _ _ => dg_nm (i := 3) nd rfl (by first | exact Or.inl rfl | exact Or.inr rfl)) (fun _ _ _ _ _ => dts_nil) (fun _ _ _ _ _ => de_ix (dv 2) (de_c1 c__law_draw hr (by decide) (by rfl) pas0 (da_cons (dv 0) (da_cons (de_callB cd_len (by rfl) (nob "len" (by decide)) bt_len (da_cons (dv 2) (da_nil))) (da_nil)))) (fun _ _ => rfl))) (da_nil)))))

abbrev s_check_row : Stmt := topS 25
theorem sc_check_row : FnScope N_check_row ["row"] (defScope s_check_row) := ⟨rfl, rfl, rfl, by decide +kernel, rfl, by decide +kernel, by decide +kernel⟩
theorem ok_check_row {P : Program} {w : World} {K : PySem.W.Frag} {mg : Str → Option Value} {base : Heap} (E : LawEnv K mg) {f : Addr} {fd : FuncData} (c_is_row : CalD P w K mg base 1 "is_row" ["value"] sp_is_row) (x_BadRow : ExcD P w K mg base 1 "BadRow") (F : Fun K "check_row" "check_row" s_check_row f fd) : FnD P w K mg base 3 f fd ["row"] sp_check_row := by
  have nob := E.nob
  refine fnS F sc_check_row rl_check_row fun cdv A outer s H Ex hr => ⟨rd_check_row, ?_, rp_check_row⟩
  have nd := sc_check_row.nd
  have po : PassesOwn (model P w) (cxOf (L2.CX P w) P w K mg base N_check_row "check_row" (defScope s_check_row) f cdv A outer s H Ex).A (cxOf (L2.CX P w) P w K mg base N_check_row "check_row" (defScope s_check_row) f cdv A outer s H Ex).env (cxOf (L2.CX P w) P w K mg base N_check_row "check_row" (defScope s_check_row) f cdv A outer s H Ex).xe := passes_of rfl
  have tk : Takes (cxOf (L2.CX P w) P w K mg base N_check_row "check_row" (defScope s_check_row) f cdv A outer s H Ex) (WF Ex) := takes_of rfl rfl rfl rfl
  exact ds_one (ds_if (dt_not (dt_val (de_c1 c_is_row hr (by decide) (by rfl) (fun σ => passAt tk σ) (da_cons (dv 0) (da_nil))))) (ds_one (ds_raise rfl tk x_BadRow hr (by decide) (by rfl) (dv 0))) (ds_nil))

abbrev s_check_kinds : Stmt := topS 26
theorem sc_check_kinds : FnScope N_check_kinds ["kinds"] (defScope s_check_kinds) := ⟨rfl, rfl, rfl, by decide +kernel, rfl, by decide +kernel, by decide +kernel⟩
theorem ok_check_kinds {P : Program} {w : World} {K : PySem.W.Frag} {mg : Str → Option Value} {base : Heap} (E : LawEnv K mg) {f : Addr} {fd : FuncData} (c_is_kinds : CalD P w K mg base 2 "is_kinds" ["value"] sp_is_kinds) (x_BadKinds : ExcD P w K mg base 1 "BadKinds") (F : Fun K "check_kinds" "check_kinds" s_check_kinds f fd) : FnD P w K mg base 3 f fd ["kinds"] sp_check_kinds := by
  have nob := E.nob
  refine fnS F sc_check_kinds rl_check_kinds fun cdv A outer s H Ex hr => ⟨rd_check_kinds, ?_, rp_check_kinds⟩
  have nd := sc_check_kinds.nd
  have po : PassesOwn (model P w) (cxOf (L2.CX P w) P w K mg base N_check_kinds "check_kinds" (defScope s_check_kinds) f cdv A outer s H Ex).A (cxOf (L2.CX P w) P w K mg base N_check_kinds "check_kinds" (defScope s_check_kinds) f cdv A outer s H Ex).env (cxOf (L2.CX P w) P w K mg base N_check_kinds "check_kinds" (defScope s_check_kinds) f cdv A outer s H Ex).xe := passes_of rfl
  have tk : Takes (cxOf (L2.CX P w) P w K mg base N_check_kinds "check_kinds" (defScope s_check_kinds) f cdv A outer s H Ex) (WF Ex) := takes_of rfl rfl rfl rfl
  exact ds_one (ds_if (dt_not (dt_val (de_c1 c_is_kinds hr (by decide) (by rfl) (fun σ => passAt tk σ) (da_cons (dv 0) (da_nil))))) (ds_one (ds_raise rfl tk x_BadKinds hr (by decide) (by rfl) (dv 0))) (ds_nil))

abbrev s__law_kinds : Stmt := topS 37
theorem sc__law_kinds : FnScope N__law_kinds ["_law_bag_here"] (defScope s__law_kinds) := ⟨rfl, rfl, rfl, by decide +kernel, rfl, by decide +kernel, by decide +kernel⟩
theorem ok__law_kinds {P : Program} {w : World} {K : PySem.W.Frag} {mg : Str → Option Value} {base : Heap} (E : LawEnv K mg) {f : Addr} {fd : FuncData} (c__law_draw : CalD P w K mg base 1 "_law_draw" ["_law_bag_here", "_law_size"] sp__law_draw) (c__law_mixed : CalD P w K mg base 2 "_law_mixed" ["_law_bag_here", "_law_items"] sp__law_mixed) (F : Fun K "_law_kinds" "_law_kinds" s__law_kinds f fd) : FnD P w K mg base 3 f fd ["_law_bag_here"] sp__law_kinds := by
  have nob := E.nob
  refine fnS F sc__law_kinds rl__law_kinds fun cdv A outer s H Ex hr => ⟨rd__law_kinds, ?_, rp__law_kinds⟩
  have nd := sc__law_kinds.nd
  have po : PassesOwn (model P w) (cxOf (L2.CX P w) P w K mg base N__law_kinds "_law_kinds" (defScope s__law_kinds) f cdv A outer s H Ex).A (cxOf (L2.CX P w) P w K mg base N__law_kinds "_law_kinds" (defScope s__law_kinds) f cdv A outer s H Ex).env (cxOf (L2.CX P w) P w K mg base N__law_kinds "_law_kinds" (defScope s__law_kinds) f cdv A outer s H Ex).xe := passes_of rfl
  have tk : Takes (cxOf (L2.CX P w) P w K mg base N__law_kinds "_law_kinds" (defScope s__law_kinds) f cdv A outer s H Ex) (WF Ex) := takes_of rfl rfl rfl rfl
  exact ds_cons (ds_set (i := 1) nd rfl (by first | exact Or.inl rfl | exact Or.inr rfl) (de_ix (de_lst (da_cons (de_int) (da_cons (de_int) (da_cons (de_int) (da_cons (de_int) (da_cons (de_int) (da_cons (de_int) (da_cons (de_int) (da_cons (de_int) (da_cons (de_int) (da_cons (de_int) (da_cons (de_int) (da_cons (de_int) (da_cons (de_int) (da_cons (de_int) (da_cons (de_int) (da_cons (de_int) (da_nil)))))))))))))))))) (de_c1 c__law_draw hr (by decide) (by rfl) (fun σ => passAt tk σ) (da_cons (dv 0) (da_cons (de_int) (da_nil)))) (fun _ _ => rfl)))
    (ds_cons (ds_setLc (i := 2) rfl nd rfl rfl (sw_true rfl rfl rfl (by decide +kernel)) (di_range1 (by rfl) (nob "range" (by decide)) (da_cons (de_int) (da_nil))) (blkOk_by (own := [("_law_k", 3)]) (N := N__law_kinds) (sc := defScope s__law_kinds) (by decide +kernel)) rfl rfl (fun _ _ _ _ _ => dg_nm (i := 3) nd rfl (by first | exact Or.inl rfl | exact Or.inr rfl)) (fun _ _ _ _ _ => dts_one (dt_cmp (odEq hr.units) (de_op od_mod (de_callTy cd_int (by rfl) (nob "int" (by decide)) bt_int (da_cons (de_op od_fdiv (dv 1) (de_ix (de_lst (da_cons (de_int) (da_cons (de_int) (da_cons (de_int) (da_cons (de_int) (da_nil)))))) (dv 3) (fun _ _ => rfl))) (da_nil))) (de_int)) (de_int) (nomark _))) (fun _ _ _ _ _ => de_ix (de_lst (da_cons (de_str [100]) (da_cons (de_str [119]) (da_cons (de_str [97]) (da_cons (de_str [114]) (da_nil)))))) (dv 3) (fun _ _ => rfl)))
    (ds_one (ds_ret (de_sm PySem.F.slot_str_join PySem.F.type_str_join md_join (de_str []) (da_cons (de_c1 c__law_mixed hr (by decide) (by rfl) (fun σ => passAt tk σ) (da_cons (dv 0) (da_cons (dv 2) (da_nil)))) (da_nil))))))

abbrev s__law_wrong_row : Stmt := topS 41
theorem sc__law_wrong_row : FnScope N__law_wrong_row ["_law_bag_here"] (defScope s__law_wrong_row) := ⟨rfl, rfl, rfl, by decide +kernel, rfl, by decide +kernel, by decide +kernel⟩
theorem ok__law_wrong_row {P : Program} {w : World} {K : PySem.W.Frag} {mg : Str → Option Value} {base : Heap} (E : LawEnv K mg) {f : Addr} {fd : FuncData} (c__law_draw : CalD P w K mg base 1 "_law_draw" ["_law_bag_here", "_law_size"] sp__law_draw) (c__law_row : CalD P w K mg base 2 "_law_row" ["_law_bag_here", "_law_most"] sp__law_row) (c__law_pick : CalD P w K mg base 2 "_law_pick" ["_law_bag_here", "_law_items"] sp__law_pick) (F : Fun K "_law_wrong_row" "_law_wrong_row" s__law_wrong_row f fd) : FnD P w K mg base 3 f fd ["_law_bag_here"] sp__law_wrong_row := by
  have nob := E.nob
  refine fnS F sc__law_wrong_row rl__law_wrong_row fun cdv A outer s H Ex hr => ⟨rd__law_wrong_row, ?_, rp__law_wrong_row⟩
  have nd := sc__law_wrong_row.nd
  have po : PassesOwn (model P w) (cxOf (L2.CX P w) P w K mg base N__law_wrong_row "_law_wrong_row" (defScope s__law_wrong_row) f cdv A outer s H Ex).A (cxOf (L2.CX P w) P w K mg base N__law_wrong_row "_law_wrong_row" (defScope s__law_wrong_row) f cdv A outer s H Ex).env (cxOf (L2.CX P w) P w K mg base N__law_wrong_row "_law_wrong_row" (defScope s__law_wrong_row) f cdv A outer s H Ex).xe := passes_of rfl
  have tk : Takes (cxOf (L2.CX P w) P w K mg base N__law_wrong_row "_law_wrong_row" (defScope s__law_wrong_row) f cdv A outer s H Ex) (WF Ex) := takes_of rfl rfl rfl rfl
  exact ds_cons (ds_if (dt_cmp (odEq hr.units) (de_c1 c__law_draw hr (by decide) (by rfl) (fun σ => passAt tk σ) (da_cons (dv 0) (da_cons (de_int) (da_nil)))) (de_int) (nomark _)) (ds_one (ds_ret (de_ix (de_lst (da_cons (de_non) (da_cons (de_int) (da_cons (de_bl) (da_cons (de_lst (da_cons (de_str [100]) (da_nil))) (da_cons (de_tup (da_cons (de_str [100]) (da_cons (de_str [114]) (da_nil)))) (da_cons (de_op od_mul (de_str [100]) (de_int)) (da_cons (de_dct0) (da_nil))))))))) (de_c1 c__law_draw hr (by decide) (by rfl) (fun σ => passAt tk σ) (da_cons (dv 0) (da_cons (de_int) (da_nil)))) (fun _ _ => rfl)))) (ds_nil))
    (ds_cons (ds_set (i := 1) nd rfl (by first | exact Or.inl rfl | exact Or.inr rfl) (de_c1 c__law_row hr (by decide) (by rfl) (fun σ => passAt tk σ) (da_cons (dv 0) (da_cons (de_int) (da_nil)))))
    (ds_cons (ds_set (i := 2) nd rfl (by first | exact Or.inl rfl | exact Or.inr rfl) (de_c1 c__law_draw hr (by decide) (by rfl) (fun σ => passAt tk σ) (da_cons (dv 0) (da_cons (de_op od_add (de_callB cd_len (by rfl) (nob "len" (by decide)) bt_len (da_cons (dv 1) (da_nil))) (de_int)) (da_nil)))))
    (ds_one (ds_ret (de_op od_add (de_op od_add (de_slice (dv 1) (do_none) (do_some (dv 2))) (de_c1 c__law_pick hr (by decide) (by rfl) (fun σ => passAt tk σ) (da_cons (dv 0) (da_cons (de_lst (da_cons (de_str [120]) (da_cons (de_str [68]) (da_cons (de_str [32]) (da_cons (de_str [49]) (da_cons (de_str [45]) (da_cons (de_str [101]) (da_cons (de_str [113]) (da_cons (de_str [10]) (da_nil)))))))))) (da_nil))))) (de_slice (dv 1) (do_some (dv 2)) (do_none)))))))

abbrev s__law_made_by_hand : Stmt := topS 44
theorem sc__law_made_by_hand : FnScope N__law_made_by_hand ["_law_bag_here"] (defScope s__law_made_by_hand) := ⟨rfl, rfl, rfl, by decide +kernel, rfl, by decide +kernel, by decide +kernel⟩
theorem ok__law_made_by_hand {P : Program} {w : World} {K : PySem.W.Frag} {mg : Str → Option Value} {base : Heap} (E : LawEnv K mg) {f : Addr} {fd : FuncData} (c__law_pick : CalD P w K mg base 2 "_law_pick" ["_law_bag_here", "_law_items"] sp__law_pick) (c__law_classes : CalD P w K mg base 1 "_law_classes" ["_law_e"] sp__law_classes) (x_BadMost : ExcD P w K mg base 1 "BadMost") (x_BadLimits : ExcD P w K mg base 1 "BadLimits") (x_BadKinds : ExcD P w K mg base 1 "BadKinds") (x_BadClosed : ExcD P w K mg base 1 "BadClosed") (x_BadReading : ExcD P w K mg base 1 "BadReading") (x_BadPrices : ExcD P w K mg base 1 "BadPrices") (x_BadNeed : ExcD P w K mg base 1 "BadNeed") (x_BadName : ExcD P w K mg base 1 "BadName") (x_BadUnit : ExcD P w K mg base 1 "BadUnit") (x_BadText : ExcD P w K mg base 1 "BadText") (x_BadStops : ExcD P w K mg base 1 "BadStops") (x_BadRow : ExcD P w K mg base 1 "BadRow") (x_NoStand : ExcD P w K mg base 1 "NoStand") (x_NoNews : ExcD P w K mg base 1 "NoNews") (x_BadWays : ExcD P w K mg base 1 "BadWays") (x_BadUnits : ExcD P w K mg base 1 "BadUnits") (x0_TooMany : Exc0D K mg "TooMany") (x0_NothingToUndo : Exc0D K mg "NothingToUndo") (x0_RestError : Exc0D K mg "RestError") (F : Fun K "_law_made_by_hand" "_law_made_by_hand" s__law_made_by_hand f fd) : FnD P w K mg base 3 f fd ["_law_bag_here"] sp__law_made_by_hand := by
  have nob := E.nob
  refine fnS F sc__law_made_by_hand rl__law_made_by_hand fun cdv A outer s H Ex hr => ⟨rd__law_made_by_hand, ?_, rp__law_made_by_hand⟩
  have nd := sc__law_made_by_hand.nd
  have po : PassesOwn (model P w) (cxOf (L2.CX P w) P w K mg base N__law_made_by_hand "_law_made_by_hand" (defScope s__law_made_by_hand) f cdv A outer s H Ex).A (cxOf (L2.CX P w) P w K mg base N__law_made_by_hand "_law_made_by_hand" (defScope s__law_made_by_hand) f cdv A outer s H Ex).env (cxOf (L2.CX P w) P w K mg base N__law_made_by_hand "_law_made_by_hand" (defScope s__law_made_by_hand) f cdv A outer s H Ex).xe := passes_of rfl
  have tk : Takes (cxOf (L2.CX P w) P w K mg base N__law_made_by_hand "_law_made_by_hand" (defScope s__law_made_by_hand) f cdv A outer s H Ex) (WF Ex) := takes_of rfl rfl rfl rfl
  exact ds_cons (ds_set (i := 1) nd rfl (by first | exact Or.inl rfl | exact Or.inr rfl) (de_c1 c__law_pick hr (by decide) (by rfl) (fun σ => passAt tk σ) (da_cons (dv 0) (da_cons (de_lst (da_cons (de_non) (da_cons (de_int) (da_cons (de_str [120]) (da_cons (de_lst (da_cons (de_int) (da_nil))) (da_cons (de_tup (da_cons (de_int) (da_nil))) (da_cons (de_dct0) (da_nil)))))))) (da_nil)))))
    (ds_cons (ds_set (i := 2) nd rfl (by first | exact Or.inl rfl | exact Or.inr rfl) (de_lst (da_cons (de_xv E.tab (de_mkX x_BadClosed hr (by decide) (by rfl) (dv 1))) (da_cons (de_xv E.tab (de_mkX x_BadKinds hr (by decide) (by rfl) (dv 1))) (da_cons (de_xv E.tab (de_mkX x_BadLimits hr (by decide) (by rfl) (dv 1))) (da_cons (de_xv E.tab (de_mkX x_BadMost hr (by decide) (by rfl) (dv 1))) (da_nil)))))))
    (ds_cons (ds_set (i := 2) nd rfl (by first | exact Or.inl rfl | exact Or.inr rfl) (de_op od_add (dv 2) (de_lst (da_cons (de_xv E.tab (de_mkX x_BadName hr (by decide) (by rfl) (dv 1))) (da_cons (de_xv E.tab (de_mkX x_BadNeed hr (by decide) (by rfl) (dv 1))) (da_cons (de_xv E.tab (de_mkX x_BadPrices hr (by decide) (by rfl) (dv 1))) (da_cons (de_xv E.tab (de_mkX x_BadReading hr (by decide) (by rfl) (dv 1))) (da_nil))))))))
    (ds_cons (ds_set (i := 2) nd rfl (by first | exact Or.inl rfl | exact Or.inr rfl) (de_op od_add (dv 2) (de_lst (da_cons (de_xv E.tab (de_mkX x_BadRow hr (by decide) (by rfl) (dv 1))) (da_cons (de_xv E.tab (de_mkX x_BadStops hr (by decide) (by rfl) (dv 1))) (da_cons (de_xv E.tab (de_mkX x_BadText hr (by decide) (by rfl) (dv 1))) (da_cons (de_xv E.tab (de_mkX x_BadUnit hr (by decide) (by rfl) (dv 1))) (da_nil))))))))
    (ds_cons (ds_set (i := 2) nd rfl (by first | exact Or.inl rfl | exact Or.inr rfl) (de_op od_add (dv 2) (de_lst (da_cons (de_xv E.tab (de_mkX x_BadUnits hr (by decide) (by rfl) (dv 1))) (da_cons (de_xv E.tab (de_mkX x_BadWays hr (by decide) (by rfl) (dv 1))) (da_cons (de_xv E.tab (de_mkX x_NoNews hr (by decide) (by rfl) (dv 1))) (da_cons (de_xv E.tab (de_mkX x_NoStand hr (by decide) (by rfl) (dv 1))) (da_nil))))))))
    (ds_cons (ds_set (i := 3) nd rfl (by first | exact Or.inl rfl | exact Or.inr rfl) (de_lst (da_cons (de_mkX0 x0_NothingToUndo (by rfl)) (da_cons (de_mkX0 x0_TooMany (by rfl)) (da_cons (de_mkX x_BadClosed hr (by decide) (by rfl) (dv 1)) (da_cons (de_mkX x_BadKinds hr (by decide) (by rfl) (dv 1)) (da_cons (de_mkX x_BadLimits hr (by decide) (by rfl) (dv 1)) (da_cons (de_mkX x_BadMost hr (by decide) (by rfl) (dv 1)) (da_nil)))))))))
    (ds_cons (ds_set (i := 3) nd rfl (by first | exact Or.inl rfl | exact Or.inr rfl) (de_op od_add (dv 3) (de_lst (da_cons (de_mkX x_BadName hr (by decide) (by rfl) (dv 1)) (da_cons (de_mkX x_BadNeed hr (by decide) (by rfl) (dv 1)) (da_cons (de_mkX x_BadPrices hr (by decide) (by rfl) (dv 1)) (da_cons (de_mkX x_BadReading hr (by decide) (by rfl) (dv 1)) (da_cons (de_mkX x_BadRow hr (by decide) (by rfl) (dv 1)) (da_cons (de_mkX x_BadStops hr (by decide) (by rfl) (dv 1)) (da_nil))))))))))
    (ds_cons (ds_set (i := 3) nd rfl (by first | exact Or.inl rfl | exact Or.inr rfl) (de_op od_add (dv 3) (de_lst (da_cons (de_mkX x_BadText hr (by decide) (by rfl) (dv 1)) (da_cons (de_mkX x_BadUnit hr (by decide) (by rfl) (dv 1)) (da_cons (de_mkX x_BadUnits hr (by decide) (by rfl) (dv 1)) (da_cons (de_mkX x_BadWays hr (by decide) (by rfl) (dv 1)) (da_cons (de_mkX x_NoNews hr (by decide) (by rfl) (dv 1)) (da_cons (de_mkX x_NoStand hr (by decide) (by rfl) (dv 1)) (da_nil))))))))))
    (ds_cons (ds_if (DW.t (dw_or (dt_not (dt_val (de_isve E.tab E.ve (by rfl) (nob "ValueError" (by decide)) (by rfl) (nob "isinstance" (by decide)) (de_mkX0 x0_RestError (by rfl))))) (dw_or (dt_cmp (odNe hr.units) (de_c1 c__law_classes hr (by decide) (by rfl) (fun σ => passAt tk σ) (da_cons (de_mkX0 x0_RestError (by rfl)) (da_nil))) (de_int) (nomark _)) (dw_or1 (dt_cmp (odNeSL hr.units) (dv 2) (de_op od_mul (de_lst (da_cons (dv 1) (da_nil))) (de_int)) (nomark _)))))) (ds_one (ds_ret (de_bl))) (ds_nil))
    (ds_one (ds_ret (de_callB (cd_all rfl) (by rfl) (nob "all" (by decide)) bt_all (da_cons (de_lc rfl nd (di_any (dv 3)) (blkOk_by (own := [("_law_e", 4)]) (N := N__law_made_by_hand) (sc := defScope s__law_made_by_hand) (by decide +kernel)) rfl rfl (fun _ _ _ _ _ => dg_nm (i := 4) nd rfl (by first | exact Or.inl rfl | exact Or.inr rfl)) (fun _ _ _ _ _ => dts_nil) (fun _ _ _ _ _ => de_and (de_isv E.tab E.m_RestError (by rfl) (by rfl) (nob "isinstance" (by decide)) (dv 4)) (de_one (de_cmp (odEq hr.units) (de_c1 c__law_classes hr (by decide) (by rfl) pas0 (da_cons (dv 4) (da_nil))) (de_int) (nomark _))))) (da_nil)))))))))))))

abbrev s_stretches : Stmt := topS 27
theorem sc_stretches : FnScope N_stretches ["row"] (defScope s_stretches) := ⟨rfl, rfl, rfl, by decide +kernel, rfl, by decide +kernel, by decide +kernel⟩
theorem ok_stretches {P : Program} {w : World} {K : PySem.W.Frag} {mg : Str → Option Value} {base : Heap} (E : LawEnv K mg) {f : Addr} {fd : FuncData} (c_check_row : CalD P w K mg base 3 "check_row" ["row"] sp_check_row) (F : Fun K "stretches" "stretches" s_stretches f fd) : FnD P w K mg base 4 f fd ["row"] sp_stretches := by
  have nob := E.nob
  refine fnS F sc_stretches rl_stretches fun cdv A outer s H Ex hr => ⟨rd_stretches, ?_, rp_stretches⟩
  have nd := sc_stretches.nd
  have po : PassesOwn (model P w) (cxOf (L2.CX P w) P w K mg base N_stretches "stretches" (defScope s_stretches) f cdv A outer s H Ex).A (cxOf (L2.CX P w) P w K mg base N_stretches "stretches" (defScope s_stretches) f cdv A outer s H Ex).env (cxOf (L2.CX P w) P w K mg base N_stretches "stretches" (defScope s_stretches) f cdv A outer s H Ex).xe := passes_of rfl
  have tk : Takes (cxOf (L2.CX P w) P w K mg base N_stretches "stretches" (defScope s_stretches) f cdv A outer s H Ex) (WF Ex) := takes_of rfl rfl rfl rfl
  exact ds_cons (ds_expr (de_c1 c_check_row hr (by decide) (by rfl) (fun σ => passAt tk σ) (da_cons (dv 0) (da_nil))))
    (ds_cons (ds_set (i := 1) nd rfl (by first | exact Or.inl rfl | exact Or.inr rfl) (de_lstO (da_nil)))
    (ds_cons (ds_set (i := 2) nd rfl (by first | exact Or.inl rfl | exact Or.inr rfl) (de_int))
    (ds_cons (ds_for po rfl (di_range2 (by rfl) (nob "range" (by decide)) (da_cons (de_int) (da_cons (de_op od_add (de_callB cd_len (by rfl) (nob "len" (by decide)) bt_len (da_cons (dv 0) (da_nil))) (de_int)) (da_nil)))) (dg_nm (i := 3) nd rfl (by first | exact Or.inl rfl | exact Or.inr rfl)) (ds_one (ds_if (DW.t (dw_or (dt_cmp (odEq hr.units) (dv 3) (de_callB cd_len (by rfl) (nob "len" (by decide)) bt_len (da_cons (dv 0) (da_nil))) (nomark _)) (dw_or1 (dt_cmp (odNe hr.units) (de_ix (dv 0) (dv 3) (fun _ _ => rfl)) (de_ix (dv 0) (dv 2) (fun _ _ => rfl)) (nomark _))))) (ds_cons (ds_expr (de_lm PySem.F.slot_list_append PySem.F.type_list_append md_append (dv 1) (da_cons (de_tup (da_cons (de_ix (dv 0) (dv 2) (fun _ _ => rfl)) (da_cons (dv 2) (da_cons (dv 3) (da_nil))))) (da_nil))))
    (ds_one (ds_set (i := 2) nd rfl (by first | exact Or.inl rfl | exact Or.inr rfl) (dv 3)))) (ds_nil))))
    (ds_one (ds_ret (dv 1))))))

abbrev s_places_of : Stmt := topS 29
theorem sc_places_of : FnScope N_places_of ["row", "kinds"] (defScope s_places_of) := ⟨rfl, rfl, rfl, by decide +kernel, rfl, by decide +kernel, by decide +kernel⟩
theorem ok_places_of {P : Program} {w : World} {K : PySem.W.Frag} {mg : Str → Option Value} {base : Heap} (E : LawEnv K mg) {f : Addr} {fd : FuncData} (c_check_row : CalD P w K mg base 3 "check_row" ["row"] sp_check_row) (c_check_kinds : CalD P w K mg base 3 "check_kinds" ["kinds"] sp_check_kinds) (F : Fun K "places_of" "places_of" s_places_of f fd) : FnD P w K mg base 4 f fd ["row", "kinds"] sp_places_of := by
  have nob := E.nob
  refine fnS F sc_places_of rl_places_of fun cdv A outer s H Ex hr => ⟨rd_places_of, ?_, rp_places_of⟩
  have nd := sc_places_of.nd
  have po : PassesOwn (model P w) (cxOf (L2.CX P w) P w K mg base N_places_of "places_of" (defScope s_places_of) f cdv A outer s H Ex).A (cxOf (L2.CX P w) P w K mg base N_places_of "places_of" (defScope s_places_of) f cdv A outer s H Ex).env (cxOf (L2.CX P w) P w K mg base N_places_of "places_of" (defScope s_places_of) f cdv A outer s H Ex).xe := passes_of rfl
  have tk : Takes (cxOf (L2.CX P w) P w K mg base N_places_of "places_of" (defScope s_places_of) f cdv A outer s H Ex) (WF Ex) := takes_of rfl rfl rfl rfl
  exact ds_cons (ds_expr (de_c1 c_check_row hr (by decide) (by rfl) (fun σ => passAt tk σ) (da_cons (dv 0) (da_nil))))
    (ds_cons (ds_expr (de_c1 c_check_kinds hr (by decide) (by rfl) (fun σ => passAt tk σ) (da_cons (dv 1) (da_nil))))
    (ds_one (ds_ret (de_lcO rfl nd (di_range1 (by rfl) (nob "range" (by decide)) (da_cons (de_callB cd_len (by rfl) (nob "len" (by decide)) bt_len (da_cons (dv 0) (da_nil))) (da_nil))) (blkOk_by (own := [("unit", 2)]) (N := N_places_of) (sc := defScope s_places_of) (by decide +kernel)) rfl rfl (fun _ _ _ _ _ => dg_nm (i := 2) nd rfl (by first | exact Or.inl rfl | exact Or.inr rfl)) (fun _ _ _ _ _ => dts_one (dt_cmp od_in (de_ix (dv 0) (dv 2) (fun _ _ => rfl)) (dv 1) (by rfl))) (fun _ _ _ _ _ => dv 2)))))

abbrev s_longest_of : Stmt := topS 31
theorem sc_longest_of : FnScope N_longest_of ["row", "kinds"] (defScope s_longest_of) := ⟨rfl, rfl, rfl, by decide +kernel, rfl, by decide +kernel, by decide +kernel⟩
theorem ok_longest_of {P : Program} {w : World} {K : PySem.W.Frag} {mg : Str → Option Value} {base : Heap} (E : LawEnv K mg) {f : Addr} {fd : FuncData} (c_check_row : CalD P w K mg base 3 "check_row" ["row"] sp_check_row) (c_check_kinds : CalD P w K mg base 3 "check_kinds" ["kinds"] sp_check_kinds) (F : Fun K "longest_of" "longest_of" s_longest_of f fd) : FnD P w K mg base 4 f fd ["row", "kinds"] sp_longest_of := by
  have nob := E.nob
  refine fnS F sc_longest_of rl_longest_of fun cdv A outer s H Ex hr => ⟨rd_longest_of, ?_, rp_longest_of⟩
  have nd := sc_longest_of.nd
  have po : PassesOwn (model P w) (cxOf (L2.CX P w) P w K mg base N_longest_of "longest_of" (defScope s_longest_of) f cdv A outer s H Ex).A (cxOf (L2.CX P w) P w K mg base N_longest_of "longest_of" (defScope s_longest_of) f cdv A outer s H Ex).env (cxOf (L2.CX P w) P w K mg base N_longest_of "longest_of" (defScope s_longest_of) f cdv A outer s H Ex).xe := passes_of rfl
  have tk : Takes (cxOf (L2.CX P w) P w K mg base N_longest_of "longest_of" (defScope s_longest_of) f cdv A outer s H Ex) (WF Ex) := takes_of rfl rfl rfl rfl
  exact ds_cons (ds_expr (de_c1 c_check_row hr (by decide) (by rfl) (fun σ => passAt tk σ) (da_cons (dv 0) (da_nil))))
    (ds_cons (ds_expr (de_c1 c_check_kinds hr (by decide) (by rfl) (fun σ => passAt tk σ) (da_cons (dv 1) (da_nil))))
    (ds_cons (ds_set (i := 2) nd rfl (by first | exact Or.inl rfl | exact Or.inr rfl) (de_int))
    (ds_cons (ds_set (i := 3) nd rfl (by first | exact Or.inl rfl | exact Or.inr rfl) (de_int))
    (ds_cons (ds_for po rfl (di_any (dv 0)) (dg_nm (i := 4) nd rfl (by first | exact Or.inl rfl | exact Or.inr rfl)) (ds_cons (ds_set (i := 3) nd rfl (by first | exact Or.inl rfl | exact Or.inr rfl) (de_if (dt_cmp od_in (dv 4) (dv 1) (by rfl)) (de_op od_add (dv 3) (de_int)) (de_int)))
    (ds_one (ds_set (i := 2) nd rfl (by first | exact Or.inl rfl | exact Or.inr rfl) (de_callB (cd_max2 rfl) (by rfl) (nob "max" (by decide)) bt_max (da_cons (dv 2) (da_cons (dv 3) (da_nil))))))))
    (ds_one (ds_ret (dv 2)))))))

abbrev s__law_some_kinds : Stmt := topS 39
theorem sc__law_some_kinds : FnScope N__law_some_kinds ["_law_bag_here"] (defScope s__law_some_kinds) := ⟨rfl, rfl, rfl, by decide +kernel, rfl, by decide +kernel, by decide +kernel⟩
theorem ok__law_some_kinds {P : Program} {w : World} {K : PySem.W.Frag} {mg : Str → Option Value} {base : Heap} (E : LawEnv K mg) {f : Addr} {fd : FuncData} (c__law_draw : CalD P w K mg base 1 "_law_draw" ["_law_bag_here", "_law_size"] sp__law_draw) (c__law_kinds : CalD P w K mg base 3 "_law_kinds" ["_law_bag_here"] sp__law_kinds) (F : Fun K "_law_some_kinds" "_law_some_kinds" s__law_some_kinds f fd) : FnD P w K mg base 4 f fd ["_law_bag_here"] sp__law_some_kinds := by
  have nob := E.nob
  refine fnS F sc__law_some_kinds rl__law_some_kinds fun cdv A outer s H Ex hr => ⟨rd__law_some_kinds, ?_, rp__law_some_kinds⟩
  have nd := sc__law_some_kinds.nd
  have po : PassesOwn (model P w) (cxOf (L2.CX P w) P w K mg base N__law_some_kinds "_law_some_kinds" (defScope s__law_some_kinds) f cdv A outer s H Ex).A (cxOf (L2.CX P w) P w K mg base N__law_some_kinds "_law_some_kinds" (defScope s__law_some_kinds) f cdv A outer s H Ex).env (cxOf (L2.CX P w) P w K mg base N__law_some_kinds "_law_some_kinds" (defScope s__law_some_kinds) f cdv A outer s H Ex).xe := passes_of rfl
  have tk : Takes (cxOf (L2.CX P w) P w K mg base N__law_some_kinds "_law_some_kinds" (defScope s__law_some_kinds) f cdv A outer s H Ex) (WF Ex) := takes_of rfl rfl rfl rfl
  exact ds_cons (ds_set (i := 1) nd rfl (by first | exact Or.inl rfl | exact Or.inr rfl) (de_c1 c__law_draw hr (by decide) (by rfl) (fun σ => passAt tk σ) (da_cons (dv 0) (da_cons (de_int) (da_nil)))))
    (ds_cons (ds_if (dt_cmp (odEq hr.units) (dv 1) (de_int) (nomark _)) (ds_one (ds_ret (de_str [100, 119, 97, 114]))) (ds_nil))
    (ds_cons (ds_if (dt_cmp (odEq hr.units) (dv 1) (de_int) (nomark _)) (ds_one (ds_ret (de_ix (de_str [100, 119, 97, 114]) (de_c1 c__law_draw hr (by decide) (by rfl) (fun σ => passAt tk σ) (da_cons (dv 0) (da_cons (de_int) (da_nil)))) (fun _ _ => rfl)))) (ds_nil))
    (ds_one (ds_ret (de_c1 c__law_kinds hr (by decide) (by rfl) (fun σ => passAt tk σ) (da_cons (dv 0) (da_nil)))))))

theorem sc_l1 : NScope N_l1 ["_law_pair"] (frOf (lamS 1)) (lamS 1).scope := nscope_by (by decide +kernel)
theorem ok_l1 {P : Program} {w : World} {K : PySem.W.Frag} {mg : Str → Option Value} {base : Heap} (E : LawEnv K mg) (c_longest_of : CalD P w K mg base 4 "longest_of" ["row", "kinds"] sp_longest_of) : LamD P w K mg base 5 (lamS 1) ["_law_pair"] (frOf (lamS 1)) sl_1 := by
  have nob := E.nob
  refine lamD_of (N := N_l1) sc_l1 (fun _ _ _ _ us hl => match us, hl with | [_], _ => rfl) rl_l1 fun f c cl A outer s H Ex hr => ⟨rd_l1, ?_, rp_l1⟩
  have nd := sc_l1.nd
  have tk : Takes (ncx (L2.CX P w) P w K mg base N_l1 ((lamS 1).nf cl c) f A outer s H Ex) (WF Ex) := takes_of rfl rfl rfl rfl
  exact de_c1 c_longest_of hr (by decide) (by rfl) (fun σ => passAt tk σ) (da_cons (de_ix (dv 0) (de_int) (fun _ _ => rfl)) (da_cons (de_ix (dv 0) (de_int) (fun _ _ => rfl)) (da_nil)))

theorem sc_l2 : NScope N_l2 ["_law_todo"] (frOf (lamS 2)) (lamS 2).scope := nscope_by (by decide +kernel)
theorem ok_l2 {P : Program} {w : World} {K : PySem.W.Frag} {mg : Str → Option Value} {base : Heap} (E : LawEnv K mg) (c_places_of : CalD P w K mg base 4 "places_of" ["row", "kinds"] sp_places_of) : LamD P w K mg base 5 (lamS 2) ["_law_todo"] (frOf (lamS 2)) sl_2 := by
  have nob := E.nob
  refine lamD_of (N := N_l2) sc_l2 (fun _ _ _ _ us hl => match us, hl with | [_], _ => rfl) rl_l2 fun f c cl A outer s H Ex hr => ⟨rd_l2, ?_, rp_l2⟩
  have nd := sc_l2.nd
  have tk : Takes (ncx (L2.CX P w) P w K mg base N_l2 ((lamS 2).nf cl c) f A outer s H Ex) (WF Ex) := takes_of rfl rfl rfl rfl
  exact de_c1 c_places_of hr (by decide) (by rfl) (fun σ => passAt tk σ) (da_cons (de_ix (dv 0) (de_int) (fun _ _ => rfl)) (da_cons (de_ix (dv 0) (de_int) (fun _ _ => rfl)) (da_nil)))

theorem sc_l4 : NScope N_l4 ["_law_todo"] (frOf (lamS 4)) (lamS 4).scope := nscope_by (by decide +kernel)
theorem ok_l4 {P : Program} {w : World} {K : PySem.W.Frag} {mg : Str → Option Value} {base : Heap} (E : LawEnv K mg) (c_stretches : CalD P w K mg base 4 "stretches" ["row"] sp_stretches) : LamD P w K mg base 5 (lamS 4) ["_law_todo"] (frOf (lamS 4)) sl_4 := by
  have nob := E.nob
  refine lamD_of (N := N_l4) sc_l4 (fun _ _ _ _ us hl => match us, hl with | [_], _ => rfl) rl_l4 fun f c cl A outer s H Ex hr => ⟨rd_l4, ?_, rp_l4⟩
  have nd := sc_l4.nd
  have tk : Takes (ncx (L2.CX P w) P w K mg base N_l4 ((lamS 4).nf cl c) f A outer s H Ex) (WF Ex) := takes_of rfl rfl rfl rfl
  exact de_c1 c_stretches hr (by decide) (by rfl) (fun σ => passAt tk σ) (da_cons (de_ix (dv 0) (de_int) (fun _ _ => rfl)) (da_nil))

abbrev s_as_text : Stmt := topS 28
theorem sc_as_text : FnScope N_as_text ["row"] (defScope s_as_text) := ⟨rfl, rfl, rfl, by decide +kernel, rfl, by decide +kernel, by decide +kernel⟩
theorem ok_as_text {P : Program} {w : World} {K : PySem.W.Frag} {mg : Str → Option Value} {base : Heap} (E : LawEnv K mg) {f : Addr} {fd : FuncData} (c_stretches : CalD P w K mg base 4 "stretches" ["row"] sp_stretches) (F : Fun K "as_text" "as_text" s_as_text f fd) : FnD P w K mg base 5 f fd ["row"] sp_as_text := by
  have nob := E.nob
  refine fnS F sc_as_text rl_as_text fun cdv A outer s H Ex hr => ⟨rd_as_text, ?_, rp_as_text⟩
  have nd := sc_as_text.nd
  have po : PassesOwn (model P w) (cxOf (L2.CX P w) P w K mg base N_as_text "as_text" (defScope s_as_text) f cdv A outer s H Ex).A (cxOf (L2.CX P w) P w K mg base N_as_text "as_text" (defScope s_as_text) f cdv A outer s H Ex).env (cxOf (L2.CX P w) P w K mg base N_as_text "as_text" (defScope s_as_text) f cdv A outer s H Ex).xe := passes_of rfl
  have tk : Takes (cxOf (L2.CX P w) P w K mg base N_as_text "as_text" (defScope s_as_text) f cdv A outer s H Ex) (WF Ex) := takes_of rfl rfl rfl rfl
  exact ds_one (ds_ret (de_sm PySem.F.slot_str_join PySem.F.type_str_join md_join (de_str [32]) (da_cons (de_lc rfl nd (di_any (de_c1 c_stretches hr (by decide) (by rfl) (fun σ => passAt tk σ) (da_cons (dv 0) (da_nil)))) (blkOk_by (own := [("letter", 1), ("begin", 2), ("end", 3)]) (N := N_as_text) (sc := defScope s_as_text) (by decide +kernel)) rfl rfl (fun _ _ _ _ _ => dg_tp rfl (dgs_cons (i := 1) nd rfl (by first | exact Or.inl rfl | exact Or.inr rfl) (dgs_cons (i := 2) nd rfl (by first | exact Or.inl rfl | exact Or.inr rfl) (dgs_cons (i := 3) nd rfl (by first | exact Or.inl rfl | exact Or.inr rfl) (dgs_nil))))) (fun _ _ _ _ _ => dts_nil) (fun _ _ _ _ _ => de_joined (.cons (de_fmt (de_op od_sub (dv 3) (dv 2))) (.cons (de_fmt (dv 1)) .nil)))) (da_nil))))

abbrev s_units_of : Stmt := topS 30
theorem sc_units_of : FnScope N_units_of ["row", "kinds"] (defScope s_units_of) := ⟨rfl, rfl, rfl, by decide +kernel, rfl, by decide +kernel, by decide +kernel⟩
theorem ok_units_of {P : Program} {w : World} {K : PySem.W.Frag} {mg : Str → Option Value} {base : Heap} (E : LawEnv K mg) {f : Addr} {fd : FuncData} (c_places_of : CalD P w K mg base 4 "places_of" ["row", "kinds"] sp_places_of) (F : Fun K "units_of" "units_of" s_units_of f fd) : FnD P w K mg base 5 f fd ["row", "kinds"] sp_units_of := by
  have nob := E.nob
  refine fnS F sc_units_of rl_units_of fun cdv A outer s H Ex hr => ⟨rd_units_of, ?_, rp_units_of⟩
  have nd := sc_units_of.nd
  have po : PassesOwn (model P w) (cxOf (L2.CX P w) P w K mg base N_units_of "units_of" (defScope s_units_of) f cdv A outer s H Ex).A (cxOf (L2.CX P w) P w K mg base N_units_of "units_of" (defScope s_units_of) f cdv A outer s H Ex).env (cxOf (L2.CX P w) P w K mg base N_units_of "units_of" (defScope s_units_of) f cdv A outer s H Ex).xe := passes_of rfl
  have tk : Takes (cxOf (L2.CX P w) P w K mg base N_units_of "units_of" (defScope s_units_of) f cdv A outer s H Ex) (WF Ex) := takes_of rfl rfl rfl rfl
  exact ds_one (ds_ret (de_callB cd_len (by rfl) (nob "len" (by decide)) bt_len (da_cons (de_c1 c_places_of hr (by decide) (by rfl) (fun σ => passAt tk σ) (da_cons (dv 0) (da_cons (dv 1) (da_nil)))) (da_nil))))

abbrev s__law_wrong_kinds : Stmt := topS 42
theorem sc__law_wrong_kinds : FnScope N__law_wrong_kinds ["_law_bag_here"] (defScope s__law_wrong_kinds) := ⟨rfl, rfl, rfl, by decide +kernel, rfl, by decide +kernel, by decide +kernel⟩
theorem ok__law_wrong_kinds {P : Program} {w : World} {K : PySem.W.Frag} {mg : Str → Option Value} {base : Heap} (E : LawEnv K mg) {f : Addr} {fd : FuncData} (c__law_draw : CalD P w K mg base 1 "_law_draw" ["_law_bag_here", "_law_size"] sp__law_draw) (c__law_some_kinds : CalD P w K mg base 4 "_law_some_kinds" ["_law_bag_here"] sp__law_some_kinds) (c__law_pick : CalD P w K mg base 2 "_law_pick" ["_law_bag_here", "_law_items"] sp__law_pick) (F : Fun K "_law_wrong_kinds" "_law_wrong_kinds" s__law_wrong_kinds f fd) : FnD P w K mg base 5 f fd ["_law_bag_here"] sp__law_wrong_kinds := by
  have nob := E.nob
  refine fnS F sc__law_wrong_kinds rl__law_wrong_kinds fun cdv A outer s H Ex hr => ⟨rd__law_wrong_kinds, ?_, rp__law_wrong_kinds⟩
  have nd := sc__law_wrong_kinds.nd
  have po : PassesOwn (model P w) (cxOf (L2.CX P w) P w K mg base N__law_wrong_kinds "_law_wrong_kinds" (defScope s__law_wrong_kinds) f cdv A outer s H Ex).A (cxOf (L2.CX P w) P w K mg base N__law_wrong_kinds "_law_wrong_kinds" (defScope s__law_wrong_kinds) f cdv A outer s H Ex).env (cxOf (L2.CX P w) P w K mg base N__law_wrong_kinds "_law_wrong_kinds" (defScope s__law_wrong_kinds) f cdv A outer s H Ex).xe := passes_of rfl
  have tk : Takes (cxOf (L2.CX P w) P w K mg base N__law_wrong_kinds "_law_wrong_kinds" (defScope s__law_wrong_kinds) f cdv A outer s H Ex) (WF Ex) := takes_of rfl rfl rfl rfl
  exact ds_cons (ds_if (dt_cmp (odEq hr.units) (de_c1 c__law_draw hr (by decide) (by rfl) (fun σ => passAt tk σ) (da_cons (dv 0) (da_cons (de_int) (da_nil)))) (de_int) (nomark _)) (ds_one (ds_ret (de_ix (de_lst (da_cons (de_str []) (da_cons (de_non) (da_cons (de_int) (da_cons (de_bl) (da_cons (de_lst (da_cons (de_str [100]) (da_nil))) (da_cons (de_str [100, 119, 97, 114, 120]) (da_cons (de_str [100, 100]) (da_nil))))))))) (de_c1 c__law_draw hr (by decide) (by rfl) (fun σ => passAt tk σ) (da_cons (dv 0) (da_cons (de_int) (da_nil)))) (fun _ _ => rfl)))) (ds_nil))
    (ds_cons (ds_set (i := 1) nd rfl (by first | exact Or.inl rfl | exact Or.inr rfl) (de_c1 c__law_some_kinds hr (by decide) (by rfl) (fun σ => passAt tk σ) (da_cons (dv 0) (da_nil))))
    (ds_cons (ds_set (i := 2) nd rfl (by first | exact Or.inl rfl | exact Or.inr rfl) (de_c1 c__law_draw hr (by decide) (by rfl) (fun σ => passAt tk σ) (da_cons (dv 0) (da_cons (de_op od_add (de_callB cd_len (by rfl) (nob "len" (by decide)) bt_len (da_cons (dv 1) (da_nil))) (de_int)) (da_nil)))))
    (ds_one (ds_ret (de_op od_add (de_op od_add (de_slice (dv 1) (do_none) (do_some (dv 2))) (de_c1 c__law_pick hr (by decide) (by rfl) (fun σ => passAt tk σ) (da_cons (dv 0) (da_cons (de_lst (da_cons (de_str [120]) (da_cons (de_str [68]) (da_cons (de_str [32]) (da_cons (de_ix (dv 1) (de_int) (fun _ _ => rfl)) (da_cons (de_str [49]) (da_cons (de_str [113]) (da_nil)))))))) (da_nil))))) (de_slice (dv 1) (do_some (dv 2)) (do_none)))))))

theorem sc_l0 : NScope N_l0 ["_law_todo"] (frOf (lamS 0)) (lamS 0).scope := nscope_by (by decide +kernel)
theorem ok_l0 {P : Program} {w : World} {K : PySem.W.Frag} {mg : Str → Option Value} {base : Heap} (E : LawEnv K mg) (c_units_of : CalD P w K mg base 5 "units_of" ["row", "kinds"] sp_units_of) : LamD P w K mg base 6 (lamS 0) ["_law_todo"] (frOf (lamS 0)) sl_0 := by
  have nob := E.nob
  refine lamD_of (N := N_l0) sc_l0 (fun _ _ _ _ us hl => match us, hl with | [_], _ => rfl) rl_l0 fun f c cl A outer s H Ex hr => ⟨rd_l0, ?_, rp_l0⟩
  have nd := sc_l0.nd
  have tk : Takes (ncx (L2.CX P w) P w K mg base N_l0 ((lamS 0).nf cl c) f A outer s H Ex) (WF Ex) := takes_of rfl rfl rfl rfl
  exact de_c1 c_units_of hr (by decide) (by rfl) (fun σ => passAt tk σ) (da_cons (de_ix (dv 0) (de_int) (fun _ _ => rfl)) (da_cons (de_ix (dv 0) (de_int) (fun _ _ => rfl)) (da_nil)))

theorem sc_l3 : NScope N_l3 ["_law_todo"] (frOf (lamS 3)) (lamS 3).scope := nscope_by (by decide +kernel)
theorem ok_l3 {P : Program} {w : World} {K : PySem.W.Frag} {mg : Str → Option Value} {base : Heap} (E : LawEnv K mg) (c_as_text : CalD P w K mg base 5 "as_text" ["row"] sp_as_text) : LamD P w K mg base 6 (lamS 3) ["_law_todo"] (frOf (lamS 3)) sl_3 := by
  have nob := E.nob
  refine lamD_of (N := N_l3) sc_l3 (fun _ _ _ _ us hl => match us, hl with | [_], _ => rfl) rl_l3 fun f c cl A outer s H Ex hr => ⟨rd_l3, ?_, rp_l3⟩
  have nd := sc_l3.nd
  have tk : Takes (ncx (L2.CX P w) P w K mg base N_l3 ((lamS 3).nf cl c) f A outer s H Ex) (WF Ex) := takes_of rfl rfl rfl rfl
  exact de_c1 c_as_text hr (by decide) (by rfl) (fun σ => passAt tk σ) (da_cons (de_ix (dv 0) (de_int) (fun _ _ => rfl)) (da_nil))

abbrev s__law_refusal : Stmt := topS 40
theorem sc__law_refusal : FnScope N__law_refusal ["_law_deed", "_law_todo"] (defScope s__law_refusal) := ⟨rfl, rfl, rfl, by decide +kernel, rfl, by decide +kernel, by decide +kernel⟩
theorem ok__law_refusal {P : Program} {w : World} {K : PySem.W.Frag} {mg : Str → Option Value} {base : Heap} {lP : Nat → Addr} (E : LawEnv K mg) {f : Addr} {fd : FuncData} (LM : ∀ i, i < 5 → LamD P w K mg base 6 (lamS i) (lps i) (frOf (lamS i)) (lsp i)) (F : Fun K "_law_refusal" "_law_refusal" s__law_refusal f fd) : GivD P w K mg base 8 f fd ["_law_deed", "_law_todo"] (sp__law_refusal (LamE.mk lamS lP)) := by
  have nob := E.nob
  refine givD F sc__law_refusal (rl__law_refusal (LamE.mk lamS lP)) fun cdv A outer s H Ex hr ds m q xf hC h => ?_
  obtain ⟨lf, li, lcl, lc, lws, lcs, lr, rfl, hli, h⟩ := h
  refine ⟨rd__law_refusal (LamE.mk lamS lP) li lcl lws, ?_, rp__law_refusal (LamE.mk lamS lP) hli h⟩
  have nd := sc__law_refusal.nd
  have po : PassesOwn (model P w) (cxOf (L2.CX P w) P w K mg base N__law_refusal "_law_refusal" (defScope s__law_refusal) f cdv A outer s H Ex).A (cxOf (L2.CX P w) P w K mg base N__law_refusal "_law_refusal" (defScope s__law_refusal) f cdv A outer s H Ex).env (cxOf (L2.CX P w) P w K mg base N__law_refusal "_law_refusal" (defScope s__law_refusal) f cdv A outer s H Ex).xe := passes_of rfl
  have tk : Takes (cxOf (L2.CX P w) P w K mg base N__law_refusal "_law_refusal" (defScope s__law_refusal) f cdv A outer s H Ex) (WF Ex) := takes_of rfl rfl rfl rfl
  exact ds_cons (ds_set (i := 2) nd rfl (by first | exact Or.inl rfl | exact Or.inr rfl) (de_non))
    (ds_cons (ds_try E.tab rfl rfl nd tk (fun W pn xe tk po => ds_one (ds_set (i := 2) nd rfl (by first | exact Or.inl rfl | exact Or.inr rfl) (de_deed (i := 0) (LM li hli) hC.at rfl hr (by decide) (fun σ => passAt tk σ) (by rfl) (by first | exact Or.inl rfl | exact Or.inr (Or.inl rfl) | exact Or.inr (Or.inr rfl)) (da_cons (dv 1) (da_nil))))) (.cons (x := "BadRow") E.m_BadRow (by rfl) (.inr ⟨_, _, rfl, rfl, rfl, rfl⟩) (fun xa oe xc xo pn hz hf => ds_one (ds_ret (de_tup (da_cons (de_str [114, 111, 119]) (da_cons (de_cmp (odEqS hr.units) (de_xf E.tab hz hf (dv 3)) (de_ix (dv 1) (de_int) (fun _ _ => rfl)) (nomark _)) (da_cons (de_and (de_isx E.tab hz hf E.m_RestError (by rfl) (by rfl) (nob "isinstance" (by decide)) (dv 3)) (de_one (de_cmp od_is (dv 2) (de_non) (nomark _)))) (da_nil))))))) (.cons (x := "BadKinds") E.m_BadKinds (by rfl) (.inr ⟨_, _, rfl, rfl, rfl, rfl⟩) (fun xa oe xc xo pn hz hf => ds_one (ds_ret (de_tup (da_cons (de_str [107, 105, 110, 100, 115]) (da_cons (de_cmp (odEqS hr.units) (de_xf E.tab hz hf (dv 3)) (de_ix (dv 1) (de_int) (fun _ _ => rfl)) (nomark _)) (da_cons (de_and (de_isx E.tab hz hf E.m_RestError (by rfl) (by rfl) (nob "isinstance" (by decide)) (dv 3)) (de_one (de_cmp od_is (dv 2) (de_non) (nomark _)))) (da_nil))))))) .nil)))
    (ds_one (ds_ret (de_non))))

abbrev s_law : Stmt := topS 45
theorem sc_law : FnScope N_law ["_law_script"] (defScope s_law) := ⟨rfl, rfl, rfl, by decide +kernel, rfl, by decide +kernel, by decide +kernel⟩
theorem ok_law {P : Program} {w : World} {K : PySem.W.Frag} {mg : Str → Option Value} {base : Heap} {lP : Nat → Addr} (E : LawEnv K mg) {f : Addr} {fd : FuncData} (c__law_bag : CalD P w K mg base 1 "_law_bag" ["_law_script"] sp__law_bag) (c__law_wrong_row : CalD P w K mg base 3 "_law_wrong_row" ["_law_bag_here"] sp__law_wrong_row) (c__law_wrong_kinds : CalD P w K mg base 5 "_law_wrong_kinds" ["_law_bag_here"] sp__law_wrong_kinds) (c__law_some_kinds : CalD P w K mg base 4 "_law_some_kinds" ["_law_bag_here"] sp__law_some_kinds) (c__law_row : CalD P w K mg base 2 "_law_row" ["_law_bag_here", "_law_most"] sp__law_row) (c_is_row : CalD P w K mg base 1 "is_row" ["value"] sp_is_row) (c_is_kinds : CalD P w K mg base 2 "is_kinds" ["value"] sp_is_kinds) (c__law_draw : CalD P w K mg base 1 "_law_draw" ["_law_bag_here", "_law_size"] sp__law_draw) (c__law_refusal : CalG P w K mg base 8 "_law_refusal" ["_law_deed", "_law_todo"] (sp__law_refusal (LamE.mk lamS lP))) (c__law_made_by_hand : CalD P w K mg base 3 "_law_made_by_hand" ["_law_bag_here"] sp__law_made_by_hand) {lc : Addr} (TB : ∀ i ∈ ([0, 1, 2, 3, 4] : List Nat), TabB base mg lc (lP i)) (F : FunC K "law" "law" s_law f fd lc) : FnD P w K mg base 9 f fd ["_law_script"] (sp_law (LamE.mk lamS lP)) := by
  have nob := E.nob
  refine fnSC F sc_law (rl_law (LamE.mk lamS lP)) fun A outer s H Ex hr => ⟨rd_law (LamE.mk lamS lP) (fun i => cloFrom (cxOf (L2.CX P w) P w K mg base N_law "law" (defScope s_law) f (.ref lc) A outer s H Ex).env.cells (lamS i).scope.names []), ?_, rp_law (LamE.mk lamS lP) _⟩
  have nd := sc_law.nd
  have po : PassesOwn (model P w) (cxOf (L2.CX P w) P w K mg base N_law "law" (defScope s_law) f (.ref lc) A outer s H Ex).A (cxOf (L2.CX P w) P w K mg base N_law "law" (defScope s_law) f (.ref lc) A outer s H Ex).env (cxOf (L2.CX P w) P w K mg base N_law "law" (defScope s_law) f (.ref lc) A outer s H Ex).xe := passes_of rfl
  have tk : Takes (cxOf (L2.CX P w) P w K mg base N_law "law" (defScope s_law) f (.ref lc) A outer s H Ex) (WF Ex) := takes_of rfl rfl rfl rfl
  exact ds_cons (ds_set (i := 1) nd rfl (by first | exact Or.inl rfl | exact Or.inr rfl) (de_c1 c__law_bag hr (by decide) (by rfl) (fun σ => passAt tk σ) (da_cons (dv 0) (da_nil))))
    (ds_cons (ds_set (i := 2) nd rfl (by first | exact Or.inl rfl | exact Or.inr rfl) (de_lstO (da_cons (de_lamS (TB 0 (by decide)) rfl rfl (free_by (by kernel_rfl)) rfl rfl) (da_cons (de_lamS (TB 1 (by decide)) rfl rfl (free_by (by kernel_rfl)) rfl rfl) (da_nil)))))
    (ds_cons (ds_expr (de_lm PySem.F.slot_list_append PySem.F.type_list_append md_append (dv 2) (da_cons (de_lamS (TB 2 (by decide)) rfl rfl (free_by (by kernel_rfl)) rfl rfl) (da_nil))))
    (ds_cons (ds_for po rfl (di_range1 (by rfl) (nob "range" (by decide)) (da_cons (de_int) (da_nil))) (dg_nm (i := 3) nd rfl (by first | exact Or.inl rfl | exact Or.inr rfl)) (ds_cons (ds_set (i := 4) nd rfl (by first | exact Or.inl rfl | exact Or.inr rfl) (de_c1 c__law_wrong_row hr (by decide) (by rfl) (fun σ => passAt tk σ) (da_cons (dv 1) (da_nil))))
    (ds_cons (ds_set (i := 5) nd rfl (by first | exact Or.inl rfl | exact Or.inr rfl) (de_c1 c__law_wrong_kinds hr (by decide) (by rfl) (fun σ => passAt tk σ) (da_cons (dv 1) (da_nil))))
    (ds_cons (ds_set (i := 6) nd rfl (by first | exact Or.inl rfl | exact Or.inr rfl) (de_tup (da_cons (de_c1 c__law_row hr (by decide) (by rfl) (fun σ => passAt tk σ) (da_cons (dv 1) (da_cons (de_int) (da_nil)))) (da_cons (de_c1 c__law_some_kinds hr (by decide) (by rfl) (fun σ => passAt tk σ) (da_cons (dv 1) (da_nil))) (da_nil)))))
    (ds_cons (ds_if (DW.t (dw_or (dt_cmp od_isNot (de_c1 c_is_row hr (by decide) (by rfl) (fun σ => passAt tk σ) (da_cons (dv 4) (da_nil))) (de_bl) (nomark _)) (dw_or1 (dt_cmp od_isNot (de_c1 c_is_kinds hr (by decide) (by rfl) (fun σ => passAt tk σ) (da_cons (dv 5) (da_nil))) (de_bl) (nomark _))))) (ds_one (ds_ret (de_bl))) (ds_nil))
    (ds_cons (ds_forK po rfl (di_keep (dv 2)) (dg_nm (i := 7) nd rfl (by first | exact Or.inl rfl | exact Or.inr rfl)) (ds_cons (ds_if (dt_cmp (odNe hr.units) (de_give c__law_refusal (capsAll (by kernel_rfl)) hr (by decide) (by rfl) (fun σ => passAt tk σ) (da_cons (dv 7) (da_cons (de_tup (da_cons (dv 4) (da_cons (de_ix (de_lst (da_cons (dv 5) (da_cons (de_ix (dv 6) (de_int) (fun _ _ => rfl)) (da_nil)))) (de_c1 c__law_draw hr (by decide) (by rfl) (fun σ => passAt tk σ) (da_cons (dv 1) (da_cons (de_int) (da_nil)))) (fun _ _ => rfl)) (da_nil)))) (da_nil)))) (de_tup (da_cons (de_str [114, 111, 119]) (da_cons (de_bl) (da_cons (de_bl) (da_nil))))) (nomark _)) (ds_one (ds_ret (de_bl))) (ds_nil))
    (ds_one (ds_if (DW.t (dw_or (dt_cmp (odNe hr.units) (de_give c__law_refusal (capsAll (by kernel_rfl)) hr (by decide) (by rfl) (fun σ => passAt tk σ) (da_cons (dv 7) (da_cons (de_tup (da_cons (de_ix (dv 6) (de_int) (fun _ _ => rfl)) (da_cons (dv 5) (da_nil)))) (da_nil)))) (de_tup (da_cons (de_str [107, 105, 110, 100, 115]) (da_cons (de_bl) (da_cons (de_bl) (da_nil))))) (nomark _)) (dw_or1 (dt_cmp od_isNot (de_give c__law_refusal (capsAll (by kernel_rfl)) hr (by decide) (by rfl) (fun σ => passAt tk σ) (da_cons (dv 7) (da_cons (dv 6) (da_nil)))) (de_non) (nomark _))))) (ds_one (ds_ret (de_bl))) (ds_nil)))))
    (ds_cons (ds_if (dt_cmp (odNe hr.units) (de_give c__law_refusal (capsAll (by kernel_rfl)) hr (by decide) (by rfl) (fun σ => passAt tk σ) (da_cons (de_lamS (TB 3 (by decide)) rfl rfl (free_by (by kernel_rfl)) rfl rfl) (da_cons (de_tup (da_cons (dv 4) (da_cons (de_int) (da_nil)))) (da_nil)))) (de_tup (da_cons (de_str [114, 111, 119]) (da_cons (de_bl) (da_cons (de_bl) (da_nil))))) (nomark _)) (ds_one (ds_ret (de_bl))) (ds_nil))
    (ds_one (ds_if (dt_cmp (odNe hr.units) (de_give c__law_refusal (capsAll (by kernel_rfl)) hr (by decide) (by rfl) (fun σ => passAt tk σ) (da_cons (de_lamS (TB 4 (by decide)) rfl rfl (free_by (by kernel_rfl)) rfl rfl) (da_cons (de_tup (da_cons (dv 4) (da_cons (de_int) (da_nil)))) (da_nil)))) (de_tup (da_cons (de_str [114, 111, 119]) (da_cons (de_bl) (da_cons (de_bl) (da_nil))))) (nomark _)) (ds_one (ds_ret (de_bl))) (ds_nil))))))))))
    (ds_cons (ds_if (DW.t (dw_or (dt_cmp od_isNot (de_c1 c_is_row hr (by decide) (by rfl) (fun σ => passAt tk σ) (da_cons (de_str []) (da_nil))) (de_bl) (nomark _)) (dw_or (dt_cmp od_isNot (de_c1 c_is_kinds hr (by decide) (by rfl) (fun σ => passAt tk σ) (da_cons (de_str []) (da_nil))) (de_bl) (nomark _)) (dw_or1 (dt_cmp od_isNot (de_c1 c_is_row hr (by decide) (by rfl) (fun σ => passAt tk σ) (da_cons (de_op od_mul (de_str [114]) (de_int)) (da_nil))) (de_bl) (nomark _)))))) (ds_one (ds_ret (de_bl))) (ds_nil))
    (ds_one (ds_ret (de_c1 c__law_made_by_hand hr (by decide) (by rfl) (fun σ => passAt tk σ) (da_cons (dv 1) (da_nil)))))))))

/-! ### what the top has written -/
theorem all_mk {l : PySem.W.OpenLaw} {w : World} {K : PySem.W.Frag} {h : Heap} {mg : Str → Option Value} {fa : Addr} (X : K.In h) (G : h.Ns mainGlobals mg) (hfa : mg "law" = some (.ref fa))
    {f0 : Addr} {od0 an0 : Option Addr} {sl0 : Array (Option Value)} {oc0 kV0 dc0 pm0 ct0 : Value} {cd0 : Value}
    (a0 : PySem.W.nsIn K mainGlobals "is_row" = some (some (.ref f0)))
    (l0 : K.lookup f0 = some ⟨oc0, od0, .func (PySem.W.fnOf "is_row" "is_row" (defArgs s_is_row) (defBody s_is_row) (defScope s_is_row) .none kV0 dc0 pm0 an0 cd0 ct0), sl0⟩) (c0 : PySem.W.codeIn K cd0 "is_row" = true) (k0 : PySem.W.keepIn K (.ref f0) = true)
    {f1 : Addr} {od1 an1 : Option Addr} {sl1 : Array (Option Value)} {oc1 kV1 dc1 pm1 ct1 : Value} {cd1 : Value}
    (a1 : PySem.W.nsIn K mainGlobals "_law_bag" = some (some (.ref f1)))
    (l1 : K.lookup f1 = some ⟨oc1, od1, .func (PySem.W.fnOf "_law_bag" "_law_bag" (defArgs s__law_bag) (defBody s__law_bag) (defScope s__law_bag) .none kV1 dc1 pm1 an1 cd1 ct1), sl1⟩) (c1 : PySem.W.codeIn K cd1 "_law_bag" = true) (k1 : PySem.W.keepIn K (.ref f1) = true)
    {f2 : Addr} {od2 an2 : Option Addr} {sl2 : Array (Option Value)} {oc2 kV2 dc2 pm2 ct2 : Value} {cd2 : Value}
    (a2 : PySem.W.nsIn K mainGlobals "_law_draw" = some (some (.ref f2)))
    (l2 : K.lookup f2 = some ⟨oc2, od2, .func (PySem.W.fnOf "_law_draw" "_law_draw" (defArgs s__law_draw) (defBody s__law_draw) (defScope s__law_draw) .none kV2 dc2 pm2 an2 cd2 ct2), sl2⟩) (c2 : PySem.W.codeIn K cd2 "_law_draw" = true) (k2 : PySem.W.keepIn K (.ref f2) = true)
    {f3 : Addr} {od3 an3 : Option Addr} {sl3 : Array (Option Value)} {oc3 kV3 dc3 pm3 ct3 : Value} {cd3 : Value}
    (a3 : PySem.W.nsIn K mainGlobals "_law_classes" = some (some (.ref f3)))
    (l3 : K.lookup f3 = some ⟨oc3, od3, .func (PySem.W.fnOf "_law_classes" "_law_classes" (defArgs s__law_classes) (defBody s__law_classes) (defScope s__law_classes) .none kV3 dc3 pm3 an3 cd3 ct3), sl3⟩) (c3 : PySem.W.codeIn K cd3 "_law_classes" = true) (k3 : PySem.W.keepIn K (.ref f3) = true)
    {f4 : Addr} {od4 an4 : Option Addr} {sl4 : Array (Option Value)} {oc4 kV4 dc4 pm4 ct4 : Value} {cd4 : Value}
    (a4 : PySem.W.nsIn K mainGlobals "is_kinds" = some (some (.ref f4)))
    (l4 : K.lookup f4 = some ⟨oc4, od4, .func (PySem.W.fnOf "is_kinds" "is_kinds" (defArgs s_is_kinds) (defBody s_is_kinds) (defScope s_is_kinds) .none kV4 dc4 pm4 an4 cd4 ct4), sl4⟩) (c4 : PySem.W.codeIn K cd4 "is_kinds" = true) (k4 : PySem.W.keepIn K (.ref f4) = true)
    {f5 : Addr} {od5 an5 : Option Addr} {sl5 : Array (Option Value)} {oc5 kV5 dc5 pm5 ct5 : Value} {cd5 : Value}
    (a5 : PySem.W.nsIn K mainGlobals "_law_pick" = some (some (.ref f5)))
    (l5 : K.lookup f5 = some ⟨oc5, od5, .func (PySem.W.fnOf "_law_pick" "_law_pick" (defArgs s__law_pick) (defBody s__law_pick) (defScope s__law_pick) .none kV5 dc5 pm5 an5 cd5 ct5), sl5⟩) (c5 : PySem.W.codeIn K cd5 "_law_pick" = true) (k5 : PySem.W.keepIn K (.ref f5) = true)
    {f6 : Addr} {od6 an6 : Option Addr} {sl6 : Array (Option Value)} {oc6 kV6 dc6 pm6 ct6 : Value} {cd6 : Value}
    (a6 : PySem.W.nsIn K mainGlobals "_law_mixed" = some (some (.ref f6)))
    (l6 : K.lookup f6 = some ⟨oc6, od6, .func (PySem.W.fnOf "_law_mixed" "_law_mixed" (defArgs s__law_mixed) (defBody s__law_mixed) (defScope s__law_mixed) .none kV6 dc6 pm6 an6 cd6 ct6), sl6⟩) (c6 : PySem.W.codeIn K cd6 "_law_mixed" = true) (k6 : PySem.W.keepIn K (.ref f6) = true)
    {f7 : Addr} {od7 an7 : Option Addr} {sl7 : Array (Option Value)} {oc7 kV7 dc7 pm7 ct7 : Value} {cd7 : Value}
    (a7 : PySem.W.nsIn K mainGlobals "_law_row" = some (some (.ref f7)))
    (l7 : K.lookup f7 = some ⟨oc7, od7, .func (PySem.W.fnOf "_law_row" "_law_row" (defArgs s__law_row) (defBody s__law_row) (defScope s__law_row) .none kV7 dc7 pm7 an7 cd7 ct7), sl7⟩) (c7 : PySem.W.codeIn K cd7 "_law_row" = true) (k7 : PySem.W.keepIn K (.ref f7) = true)
    {f8 : Addr} {od8 an8 : Option Addr} {sl8 : Array (Option Value)} {oc8 kV8 dc8 pm8 ct8 : Value} {cd8 : Value}
    (a8 : PySem.W.nsIn K mainGlobals "check_row" = some (some (.ref f8)))
    (l8 : K.lookup f8 = some ⟨oc8, od8, .func (PySem.W.fnOf "check_row" "check_row" (defArgs s_check_row) (defBody s_check_row) (defScope s_check_row) .none kV8 dc8 pm8 an8 cd8 ct8), sl8⟩) (c8 : PySem.W.codeIn K cd8 "check_row" = true) (k8 : PySem.W.keepIn K (.ref f8) = true)
    {f9 : Addr} {od9 an9 : Option Addr} {sl9 : Array (Option Value)} {oc9 kV9 dc9 pm9 ct9 : Value} {cd9 : Value}
    (a9 : PySem.W.nsIn K mainGlobals "check_kinds" = some (some (.ref f9)))
    (l9 : K.lookup f9 = some ⟨oc9, od9, .func (PySem.W.fnOf "check_kinds" "check_kinds" (defArgs s_check_kinds) (defBody s_check_kinds) (defScope s_check_kinds) .none kV9 dc9 pm9 an9 cd9 ct9), sl9⟩) (c9 : PySem.W.codeIn K cd9 "check_kinds" = true) (k9 : PySem.W.keepIn K (.ref f9) = true)
    {f10 : Addr} {od10 an10 : Option Addr} {sl10 : Array (Option Value)} {oc10 kV10 dc10 pm10 ct10 : Value} {cd10 : Value}
    (a10 : PySem.W.nsIn K mainGlobals "_law_kinds" = some (some (.ref f10)))
    (l10 : K.lookup f10 = some ⟨oc10, od10, .func (PySem.W.fnOf "_law_kinds" "_law_kinds" (defArgs s__law_kinds) (defBody s__law_kinds) (defScope s__law_kinds) .none kV10 dc10 pm10 an10 cd10 ct10), sl10⟩) (c10 : PySem.W.codeIn K cd10 "_law_kinds" = true) (k10 : PySem.W.keepIn K (.ref f10) = true)
    {f11 : Addr} {od11 an11 : Option Addr} {sl11 : Array (Option Value)} {oc11 kV11 dc11 pm11 ct11 : Value} {cd11 : Value}
    (a11 : PySem.W.nsIn K mainGlobals "_law_wrong_row" = some (some (.ref f11)))
    (l11 : K.lookup f11 = some ⟨oc11, od11, .func (PySem.W.fnOf "_law_wrong_row" "_law_wrong_row" (defArgs s__law_wrong_row) (defBody s__law_wrong_row) (defScope s__law_wrong_row) .none kV11 dc11 pm11 an11 cd11 ct11), sl11⟩) (c11 : PySem.W.codeIn K cd11 "_law_wrong_row" = true) (k11 : PySem.W.keepIn K (.ref f11) = true)
    {f12 : Addr} {od12 an12 : Option Addr} {sl12 : Array (Option Value)} {oc12 kV12 dc12 pm12 ct12 : Value} {cd12 : Value}
    (a12 : PySem.W.nsIn K mainGlobals "_law_made_by_hand" = some (some (.ref f12)))
    (l12 : K.lookup f12 = some ⟨oc12, od12, .func (PySem.W.fnOf "_law_made_by_hand" "_law_made_by_hand" (defArgs s__law_made_by_hand) (defBody s__law_made_by_hand) (defScope s__law_made_by_hand) .none kV12 dc12 pm12 an12 cd12 ct12), sl12⟩) (c12 : PySem.W.codeIn K cd12 "_law_made_by_hand" = true) (k12 : PySem.W.keepIn K (.ref f12) = true)
    {f13 : Addr} {od13 an13 : Option Addr} {sl13 : Array (Option Value)} {oc13 kV13 dc13 pm13 ct13 : Value} {cd13 : Value}
    (a13 : PySem.W.nsIn K mainGlobals "stretches" = some (some (.ref f13)))
    (l13 : K.lookup f13 = some ⟨oc13, od13, .func (PySem.W.fnOf "stretches" "stretches" (defArgs s_stretches) (defBody s_stretches) (defScope s_stretches) .none kV13 dc13 pm13 an13 cd13 ct13), sl13⟩) (c13 : PySem.W.codeIn K cd13 "stretches" = true) (k13 : PySem.W.keepIn K (.ref f13) = true)
    {f14 : Addr} {od14 an14 : Option Addr} {sl14 : Array (Option Value)} {oc14 kV14 dc14 pm14 ct14 : Value} {cd14 : Value}
    (a14 : PySem.W.nsIn K mainGlobals "places_of" = some (some (.ref f14)))
    (l14 : K.lookup f14 = some ⟨oc14, od14, .func (PySem.W.fnOf "places_of" "places_of" (defArgs s_places_of) (defBody s_places_of) (defScope s_places_of) .none kV14 dc14 pm14 an14 cd14 ct14), sl14⟩) (c14 : PySem.W.codeIn K cd14 "places_of" = true) (k14 : PySem.W.keepIn K (.ref f14) = true)
    {f15 : Addr} {od15 an15 : Option Addr} {sl15 : Array (Option Value)} {oc15 kV15 dc15 pm15 ct15 : Value} {cd15 : Value}
    (a15 : PySem.W.nsIn K mainGlobals "longest_of" = some (some (.ref f15)))
    (l15 : K.lookup f15 = some ⟨oc15, od15, .func (PySem.W.fnOf "longest_of" "longest_of" (defArgs s_longest_of) (defBody s_longest_of) (defScope s_longest_of) .none kV15 dc15 pm15 an15 cd15 ct15), sl15⟩) (c15 : PySem.W.codeIn K cd15 "longest_of" = true) (k15 : PySem.W.keepIn K (.ref f15) = true)
    {f16 : Addr} {od16 an16 : Option Addr} {sl16 : Array (Option Value)} {oc16 kV16 dc16 pm16 ct16 : Value} {cd16 : Value}
    (a16 : PySem.W.nsIn K mainGlobals "_law_some_kinds" = some (some (.ref f16)))
    (l16 : K.lookup f16 = some ⟨oc16, od16, .func (PySem.W.fnOf "_law_some_kinds" "_law_some_kinds" (defArgs s__law_some_kinds) (defBody s__law_some_kinds) (defScope s__law_some_kinds) .none kV16 dc16 pm16 an16 cd16 ct16), sl16⟩) (c16 : PySem.W.codeIn K cd16 "_law_some_kinds" = true) (k16 : PySem.W.keepIn K (.ref f16) = true)
    {f17 : Addr} {od17 an17 : Option Addr} {sl17 : Array (Option Value)} {oc17 kV17 dc17 pm17 ct17 : Value} {cd17 : Value}
    (a17 : PySem.W.nsIn K mainGlobals "as_text" = some (some (.ref f17)))
    (l17 : K.lookup f17 = some ⟨oc17, od17, .func (PySem.W.fnOf "as_text" "as_text" (defArgs s_as_text) (defBody s_as_text) (defScope s_as_text) .none kV17 dc17 pm17 an17 cd17 ct17), sl17⟩) (c17 : PySem.W.codeIn K cd17 "as_text" = true) (k17 : PySem.W.keepIn K (.ref f17) = true)
    {f18 : Addr} {od18 an18 : Option Addr} {sl18 : Array (Option Value)} {oc18 kV18 dc18 pm18 ct18 : Value} {cd18 : Value}
    (a18 : PySem.W.nsIn K mainGlobals "units_of" = some (some (.ref f18)))
    (l18 : K.lookup f18 = some ⟨oc18, od18, .func (PySem.W.fnOf "units_of" "units_of" (defArgs s_units_of) (defBody s_units_of) (defScope s_units_of) .none kV18 dc18 pm18 an18 cd18 ct18), sl18⟩) (c18 : PySem.W.codeIn K cd18 "units_of" = true) (k18 : PySem.W.keepIn K (.ref f18) = true)
    {f19 : Addr} {od19 an19 : Option Addr} {sl19 : Array (Option Value)} {oc19 kV19 dc19 pm19 ct19 : Value} {cd19 : Value}
    (a19 : PySem.W.nsIn K mainGlobals "_law_wrong_kinds" = some (some (.ref f19)))
    (l19 : K.lookup f19 = some ⟨oc19, od19, .func (PySem.W.fnOf "_law_wrong_kinds" "_law_wrong_kinds" (defArgs s__law_wrong_kinds) (defBody s__law_wrong_kinds) (defScope s__law_wrong_kinds) .none kV19 dc19 pm19 an19 cd19 ct19), sl19⟩) (c19 : PySem.W.codeIn K cd19 "_law_wrong_kinds" = true) (k19 : PySem.W.keepIn K (.ref f19) = true)
    {f20 : Addr} {od20 an20 : Option Addr} {sl20 : Array (Option Value)} {oc20 kV20 dc20 pm20 ct20 : Value} {cd20 : Value}
    (a20 : PySem.W.nsIn K mainGlobals "_law_refusal" = some (some (.ref f20)))
    (l20 : K.lookup f20 = some ⟨oc20, od20, .func (PySem.W.fnOf "_law_refusal" "_law_refusal" (defArgs s__law_refusal) (defBody s__law_refusal) (defScope s__law_refusal) .none kV20 dc20 pm20 an20 cd20 ct20), sl20⟩) (c20 : PySem.W.codeIn K cd20 "_law_refusal" = true) (k20 : PySem.W.keepIn K (.ref f20) = true)
    {lc21 P21 : Addr}
    {f21 : Addr} {od21 an21 : Option Addr} {sl21 : Array (Option Value)} {oc21 kV21 dc21 pm21 ct21 : Value}
    (a21 : PySem.W.nsIn K mainGlobals "law" = some (some (.ref f21)))
    (l21 : K.lookup f21 = some ⟨oc21, od21, .func (PySem.W.fnOf "law" "law" (defArgs s_law) (defBody s_law) (defScope s_law) .none kV21 dc21 pm21 an21 (.ref lc21) ct21), sl21⟩) (c21 : PySem.W.codeIn K (.ref lc21) "law" = true) (k21 : PySem.W.keepIn K (.ref f21) = true)
    {te21 : Value} {td21 : Option Addr} {tv21 : Array Value} {ts21 : Array (Option Value)} (tl21 : K.lookup lc21 = some ⟨te21, td21, .fields tv21, ts21⟩) (th21 : tv21[11]? = some (.ref P21))
    (z0 : PySem.W.nsIn K mainGlobals "str" = some none)
    (z1 : PySem.W.nsIn K mainGlobals "isinstance" = some none)
    (z2 : PySem.W.nsIn K mainGlobals "len" = some none)
    (z3 : PySem.W.nsIn K mainGlobals "all" = some none)
    (z4 : PySem.W.nsIn K mainGlobals "list" = some none)
    (z5 : PySem.W.nsIn K mainGlobals "abs" = some none)
    (z6 : PySem.W.nsIn K mainGlobals "int" = some none)
    (z7 : PySem.W.nsIn K mainGlobals "set" = some none)
    (z8 : PySem.W.nsIn K mainGlobals "range" = some none)
    (z9 : PySem.W.nsIn K mainGlobals "ValueError" = some none)
    (z10 : PySem.W.nsIn K mainGlobals "max" = some none)
    {t0 : Tok} (y0 : PySem.W.nsIn K mainGlobals "MOST_UNITS" = some (some (.int 2000 t0)))
    {t1 : Tok} (y1 : PySem.W.nsIn K mainGlobals "LETTERS" = some (some (.str ⟨([100, 119, 97, 114] : List Nat).toArray⟩ t1)))
    {C_RestError N_RestError : Addr} {q_RestError : Str} {bs_RestError sub_RestError : List Value} {sn_RestError : List Str} {ab_RestError : Bool} {col_RestError : Option Bool} {dd_RestError : Option Addr} {m0_RestError m1_RestError m2_RestError m3_RestError m5_RestError : Option Value}
    (xn_RestError : PySem.W.nsIn K mainGlobals "RestError" = some (some (.ref C_RestError)))
    (xl_RestError : K.lookup C_RestError = some (excClassObj "RestError" q_RestError C_RestError N_RestError bs_RestError [.type "ValueError", .type "Exception", .type "BaseException", .type "object"] true sn_RestError sub_RestError ab_RestError col_RestError dd_RestError m0_RestError m1_RestError m2_RestError m3_RestError m5_RestError "ValueError.__new__"))
    (xs_RestError : PySem.W.findIn K (.ref C_RestError) "__setattr__" = some (some (.builtin "object.__setattr__")))
    (xg_RestError : PySem.W.findIn K (.ref C_RestError) "__getattribute__" = some (some (.builtin "BaseException.__getattribute__")))
    (xh_RestError : PySem.W.findIn K (.ref C_RestError) "__getattr__" = some (none))
    (xc_RestError : PySem.W.findIn K (.ref C_RestError) "__class__" = some (some (.builtin "object.__class__")))
    (xv_RestError : PySem.W.findIn K (.ref C_RestError) "given" = some (none))
    (xk_RestError : PySem.W.keepIn K (.ref C_RestError) = true)
    (xq_RestError : PySem.W.excIn K C_RestError [.type "ValueError", .type "Exception", .type "BaseException", .type "object"] "ValueError.__new__" = true)
    (br : PySem.W.readsIn K C_RestError (.type "type") = true) (bg : PySem.W.specialIn K (.ref C_RestError) "__getattribute__" = some (some (.builtin "type.__getattribute__"))) (bi : PySem.W.findCls K (.ref C_RestError) (.type "type") "__init__" = some (.val (.builtin "ValueError.__init__")))
    {C_BadRow N_BadRow : Addr} {q_BadRow : Str} {bs_BadRow sub_BadRow : List Value} {sn_BadRow : List Str} {ab_BadRow : Bool} {col_BadRow : Option Bool} {dd_BadRow : Option Addr} {m0_BadRow m1_BadRow m2_BadRow m3_BadRow m5_BadRow : Option Value}
    (xn_BadRow : PySem.W.nsIn K mainGlobals "BadRow" = some (some (.ref C_BadRow)))
    (xl_BadRow : K.lookup C_BadRow = some (excClassObj "BadRow" q_BadRow C_BadRow N_BadRow bs_BadRow [.ref C_RestError, .type "ValueError", .type "Exception", .type "BaseException", .type "object"] true sn_BadRow sub_BadRow ab_BadRow col_BadRow dd_BadRow m0_BadRow m1_BadRow m2_BadRow m3_BadRow m5_BadRow "ValueError.__new__"))
    (xs_BadRow : PySem.W.findIn K (.ref C_BadRow) "__setattr__" = some (some (.builtin "object.__setattr__")))
    (xg_BadRow : PySem.W.findIn K (.ref C_BadRow) "__getattribute__" = some (some (.builtin "BaseException.__getattribute__")))
    (xh_BadRow : PySem.W.findIn K (.ref C_BadRow) "__getattr__" = some (none))
    (xc_BadRow : PySem.W.findIn K (.ref C_BadRow) "__class__" = some (some (.builtin "object.__class__")))
    (xv_BadRow : PySem.W.findIn K (.ref C_BadRow) "given" = some (none))
    (xk_BadRow : PySem.W.keepIn K (.ref C_BadRow) = true)
    {g_BadRow : Addr} {god_BadRow gan_BadRow : Option Addr} {gsl_BadRow : Array (Option Value)} {goc_BadRow gkV_BadRow gdc_BadRow gpm_BadRow gcd_BadRow gct_BadRow : Value}
    (xi_BadRow : PySem.W.findIn K (.ref C_BadRow) "__init__" = some (some (.ref g_BadRow))) (xt_BadRow : PySem.W.typeIn K (.ref g_BadRow) = some (.type "function"))
    (gl_BadRow : K.lookup g_BadRow = some ⟨goc_BadRow, god_BadRow, .func (PySem.W.fnOf "__init__" "BadRow.__init__" (defArgs si_BadRow) (defBody si_BadRow) (defScope si_BadRow) .none gkV_BadRow gdc_BadRow gpm_BadRow gan_BadRow gcd_BadRow gct_BadRow), gsl_BadRow⟩) (gc_BadRow : PySem.W.codeIn K gcd_BadRow "BadRow.__init__" = true) (gk_BadRow : PySem.W.keepIn K (.ref g_BadRow) = true)
    {C_BadText N_BadText : Addr} {q_BadText : Str} {bs_BadText sub_BadText : List Value} {sn_BadText : List Str} {ab_BadText : Bool} {col_BadText : Option Bool} {dd_BadText : Option Addr} {m0_BadText m1_BadText m2_BadText m3_BadText m5_BadText : Option Value}
    (xn_BadText : PySem.W.nsIn K mainGlobals "BadText" = some (some (.ref C_BadText)))
    (xl_BadText : K.lookup C_BadText = some (excClassObj "BadText" q_BadText C_BadText N_BadText bs_BadText [.ref C_RestError, .type "ValueError", .type "Exception", .type "BaseException", .type "object"] true sn_BadText sub_BadText ab_BadText col_BadText dd_BadText m0_BadText m1_BadText m2_BadText m3_BadText m5_BadText "ValueError.__new__"))
    (xs_BadText : PySem.W.findIn K (.ref C_BadText) "__setattr__" = some (some (.builtin "object.__setattr__")))
    (xg_BadText : PySem.W.findIn K (.ref C_BadText) "__getattribute__" = some (some (.builtin "BaseException.__getattribute__")))
    (xh_BadText : PySem.W.findIn K (.ref C_BadText) "__getattr__" = some (none))
    (xc_BadText : PySem.W.findIn K (.ref C_BadText) "__class__" = some (some (.builtin "object.__class__")))
    (xv_BadText : PySem.W.findIn K (.ref C_BadText) "given" = some (none))
    (xk_BadText : PySem.W.keepIn K (.ref C_BadText) = true)
    {g_BadText : Addr} {god_BadText gan_BadText : Option Addr} {gsl_BadText : Array (Option Value)} {goc_BadText gkV_BadText gdc_BadText gpm_BadText gcd_BadText gct_BadText : Value}
    (xi_BadText : PySem.W.findIn K (.ref C_BadText) "__init__" = some (some (.ref g_BadText))) (xt_BadText : PySem.W.typeIn K (.ref g_BadText) = some (.type "function"))
    (gl_BadText : K.lookup g_BadText = some ⟨goc_BadText, god_BadText, .func (PySem.W.fnOf "__init__" "BadText.__init__" (defArgs si_BadText) (defBody si_BadText) (defScope si_BadText) .none gkV_BadText gdc_BadText gpm_BadText gan_BadText gcd_BadText gct_BadText), gsl_BadText⟩) (gc_BadText : PySem.W.codeIn K gcd_BadText "BadText.__init__" = true) (gk_BadText : PySem.W.keepIn K (.ref g_BadText) = true)
    {C_BadKinds N_BadKinds : Addr} {q_BadKinds : Str} {bs_BadKinds sub_BadKinds : List Value} {sn_BadKinds : List Str} {ab_BadKinds : Bool} {col_BadKinds : Option Bool} {dd_BadKinds : Option Addr} {m0_BadKinds m1_BadKinds m2_BadKinds m3_BadKinds m5_BadKinds : Option Value}
    (xn_BadKinds : PySem.W.nsIn K mainGlobals "BadKinds" = some (some (.ref C_BadKinds)))
    (xl_BadKinds : K.lookup C_BadKinds = some (excClassObj "BadKinds" q_BadKinds C_BadKinds N_BadKinds bs_BadKinds [.ref C_RestError, .type "ValueError", .type "Exception", .type "BaseException", .type "object"] true sn_BadKinds sub_BadKinds ab_BadKinds col_BadKinds dd_BadKinds m0_BadKinds m1_BadKinds m2_BadKinds m3_BadKinds m5_BadKinds "ValueError.__new__"))
    (xs_BadKinds : PySem.W.findIn K (.ref C_BadKinds) "__setattr__" = some (some (.builtin "object.__setattr__")))
    (xg_BadKinds : PySem.W.findIn K (.ref C_BadKinds) "__getattribute__" = some (some (.builtin "BaseException.__getattribute__")))
    (xh_BadKinds : PySem.W.findIn K (.ref C_BadKinds) "__getattr__" = some (none))
    (xc_BadKinds : PySem.W.findIn K (.ref C_BadKinds) "__class__" = some (some (.builtin "object.__class__")))
    (xv_BadKinds : PySem.W.findIn K (.ref C_BadKinds) "given" = some (none))
    (xk_BadKinds : PySem.W.keepIn K (.ref C_BadKinds) = true)
    {g_BadKinds : Addr} {god_BadKinds gan_BadKinds : Option Addr} {gsl_BadKinds : Array (Option Value)} {goc_BadKinds gkV_BadKinds gdc_BadKinds gpm_BadKinds gcd_BadKinds gct_BadKinds : Value}
    (xi_BadKinds : PySem.W.findIn K (.ref C_BadKinds) "__init__" = some (some (.ref g_BadKinds))) (xt_BadKinds : PySem.W.typeIn K (.ref g_BadKinds) = some (.type "function"))
    (gl_BadKinds : K.lookup g_BadKinds = some ⟨goc_BadKinds, god_BadKinds, .func (PySem.W.fnOf "__init__" "BadKinds.__init__" (defArgs si_BadKinds) (defBody si_BadKinds) (defScope si_BadKinds) .none gkV_BadKinds gdc_BadKinds gpm_BadKinds gan_BadKinds gcd_BadKinds gct_BadKinds), gsl_BadKinds⟩) (gc_BadKinds : PySem.W.codeIn K gcd_BadKinds "BadKinds.__init__" = true) (gk_BadKinds : PySem.W.keepIn K (.ref g_BadKinds) = true)
    {C_BadMost N_BadMost : Addr} {q_BadMost : Str} {bs_BadMost sub_BadMost : List Value} {sn_BadMost : List Str} {ab_BadMost : Bool} {col_BadMost : Option Bool} {dd_BadMost : Option Addr} {m0_BadMost m1_BadMost m2_BadMost m3_BadMost m5_BadMost : Option Value}
    (xn_BadMost : PySem.W.nsIn K mainGlobals "BadMost" = some (some (.ref C_BadMost)))
    (xl_BadMost : K.lookup C_BadMost = some (excClassObj "BadMost" q_BadMost C_BadMost N_BadMost bs_BadMost [.ref C_RestError, .type "ValueError", .type "Exception", .type "BaseException", .type "object"] true sn_BadMost sub_BadMost ab_BadMost col_BadMost dd_BadMost m0_BadMost m1_BadMost m2_BadMost m3_BadMost m5_BadMost "ValueError.__new__"))
    (xs_BadMost : PySem.W.findIn K (.ref C_BadMost) "__setattr__" = some (some (.builtin "object.__setattr__")))
    (xg_BadMost : PySem.W.findIn K (.ref C_BadMost) "__getattribute__" = some (some (.builtin "BaseException.__getattribute__")))
    (xh_BadMost : PySem.W.findIn K (.ref C_BadMost) "__getattr__" = some (none))
    (xc_BadMost : PySem.W.findIn K (.ref C_BadMost) "__class__" = some (some (.builtin "object.__class__")))
    (xv_BadMost : PySem.W.findIn K (.ref C_BadMost) "given" = some (none))
    (xk_BadMost : PySem.W.keepIn K (.ref C_BadMost) = true)
    {g_BadMost : Addr} {god_BadMost gan_BadMost : Option Addr} {gsl_BadMost : Array (Option Value)} {goc_BadMost gkV_BadMost gdc_BadMost gpm_BadMost gcd_BadMost gct_BadMost : Value}
    (xi_BadMost : PySem.W.findIn K (.ref C_BadMost) "__init__" = some (some (.ref g_BadMost))) (xt_BadMost : PySem.W.typeIn K (.ref g_BadMost) = some (.type "function"))
    (gl_BadMost : K.lookup g_BadMost = some ⟨goc_BadMost, god_BadMost, .func (PySem.W.fnOf "__init__" "BadMost.__init__" (defArgs si_BadMost) (defBody si_BadMost) (defScope si_BadMost) .none gkV_BadMost gdc_BadMost gpm_BadMost gan_BadMost gcd_BadMost gct_BadMost), gsl_BadMost⟩) (gc_BadMost : PySem.W.codeIn K gcd_BadMost "BadMost.__init__" = true) (gk_BadMost : PySem.W.keepIn K (.ref g_BadMost) = true)
    {C_BadWays N_BadWays : Addr} {q_BadWays : Str} {bs_BadWays sub_BadWays : List Value} {sn_BadWays : List Str} {ab_BadWays : Bool} {col_BadWays : Option Bool} {dd_BadWays : Option Addr} {m0_BadWays m1_BadWays m2_BadWays m3_BadWays m5_BadWays : Option Value}
    (xn_BadWays : PySem.W.nsIn K mainGlobals "BadWays" = some (some (.ref C_BadWays)))
    (xl_BadWays : K.lookup C_BadWays = some (excClassObj "BadWays" q_BadWays C_BadWays N_BadWays bs_BadWays [.ref C_RestError, .type "ValueError", .type "Exception", .type "BaseException", .type "object"] true sn_BadWays sub_BadWays ab_BadWays col_BadWays dd_BadWays m0_BadWays m1_BadWays m2_BadWays m3_BadWays m5_BadWays "ValueError.__new__"))
    (xs_BadWays : PySem.W.findIn K (.ref C_BadWays) "__setattr__" = some (some (.builtin "object.__setattr__")))
    (xg_BadWays : PySem.W.findIn K (.ref C_BadWays) "__getattribute__" = some (some (.builtin "BaseException.__getattribute__")))
    (xh_BadWays : PySem.W.findIn K (.ref C_BadWays) "__getattr__" = some (none))
    (xc_BadWays : PySem.W.findIn K (.ref C_BadWays) "__class__" = some (some (.builtin "object.__class__")))
    (xv_BadWays : PySem.W.findIn K (.ref C_BadWays) "given" = some (none))
    (xk_BadWays : PySem.W.keepIn K (.ref C_BadWays) = true)
    {g_BadWays : Addr} {god_BadWays gan_BadWays : Option Addr} {gsl_BadWays : Array (Option Value)} {goc_BadWays gkV_BadWays gdc_BadWays gpm_BadWays gcd_BadWays gct_BadWays : Value}
    (xi_BadWays : PySem.W.findIn K (.ref C_BadWays) "__init__" = some (some (.ref g_BadWays))) (xt_BadWays : PySem.W.typeIn K (.ref g_BadWays) = some (.type "function"))
    (gl_BadWays : K.lookup g_BadWays = some ⟨goc_BadWays, god_BadWays, .func (PySem.W.fnOf "__init__" "BadWays.__init__" (defArgs si_BadWays) (defBody si_BadWays) (defScope si_BadWays) .none gkV_BadWays gdc_BadWays gpm_BadWays gan_BadWays gcd_BadWays gct_BadWays), gsl_BadWays⟩) (gc_BadWays : PySem.W.codeIn K gcd_BadWays "BadWays.__init__" = true) (gk_BadWays : PySem.W.keepIn K (.ref g_BadWays) = true)
    {C_BadLimits N_BadLimits : Addr} {q_BadLimits : Str} {bs_BadLimits sub_BadLimits : List Value} {sn_BadLimits : List Str} {ab_BadLimits : Bool} {col_BadLimits : Option Bool} {dd_BadLimits : Option Addr} {m0_BadLimits m1_BadLimits m2_BadLimits m3_BadLimits m5_BadLimits : Option Value}
    (xn_BadLimits : PySem.W.nsIn K mainGlobals "BadLimits" = some (some (.ref C_BadLimits)))
    (xl_BadLimits : K.lookup C_BadLimits = some (excClassObj "BadLimits" q_BadLimits C_BadLimits N_BadLimits bs_BadLimits [.ref C_RestError, .type "ValueError", .type "Exception", .type "BaseException", .type "object"] true sn_BadLimits sub_BadLimits ab_BadLimits col_BadLimits dd_BadLimits m0_BadLimits m1_BadLimits m2_BadLimits m3_BadLimits m5_BadLimits "ValueError.__new__"))
    (xs_BadLimits : PySem.W.findIn K (.ref C_BadLimits) "__setattr__" = some (some (.builtin "object.__setattr__")))
    (xg_BadLimits : PySem.W.findIn K (.ref C_BadLimits) "__getattribute__" = some (some (.builtin "BaseException.__getattribute__")))
    (xh_BadLimits : PySem.W.findIn K (.ref C_BadLimits) "__getattr__" = some (none))
    (xc_BadLimits : PySem.W.findIn K (.ref C_BadLimits) "__class__" = some (some (.builtin "object.__class__")))
    (xv_BadLimits : PySem.W.findIn K (.ref C_BadLimits) "given" = some (none))
    (xk_BadLimits : PySem.W.keepIn K (.ref C_BadLimits) = true)
    {g_BadLimits : Addr} {god_BadLimits gan_BadLimits : Option Addr} {gsl_BadLimits : Array (Option Value)} {goc_BadLimits gkV_BadLimits gdc_BadLimits gpm_BadLimits gcd_BadLimits gct_BadLimits : Value}
    (xi_BadLimits : PySem.W.findIn K (.ref C_BadLimits) "__init__" = some (some (.ref g_BadLimits))) (xt_BadLimits : PySem.W.typeIn K (.ref g_BadLimits) = some (.type "function"))
    (gl_BadLimits : K.lookup g_BadLimits = some ⟨goc_BadLimits, god_BadLimits, .func (PySem.W.fnOf "__init__" "BadLimits.__init__" (defArgs si_BadLimits) (defBody si_BadLimits) (defScope si_BadLimits) .none gkV_BadLimits gdc_BadLimits gpm_BadLimits gan_BadLimits gcd_BadLimits gct_BadLimits), gsl_BadLimits⟩) (gc_BadLimits : PySem.W.codeIn K gcd_BadLimits "BadLimits.__init__" = true) (gk_BadLimits : PySem.W.keepIn K (.ref g_BadLimits) = true)
    {C_BadUnit N_BadUnit : Addr} {q_BadUnit : Str} {bs_BadUnit sub_BadUnit : List Value} {sn_BadUnit : List Str} {ab_BadUnit : Bool} {col_BadUnit : Option Bool} {dd_BadUnit : Option Addr} {m0_BadUnit m1_BadUnit m2_BadUnit m3_BadUnit m5_BadUnit : Option Value}
    (xn_BadUnit : PySem.W.nsIn K mainGlobals "BadUnit" = some (some (.ref C_BadUnit)))
    (xl_BadUnit : K.lookup C_BadUnit = some (excClassObj "BadUnit" q_BadUnit C_BadUnit N_BadUnit bs_BadUnit [.ref C_RestError, .type "ValueError", .type "Exception", .type "BaseException", .type "object"] true sn_BadUnit sub_BadUnit ab_BadUnit col_BadUnit dd_BadUnit m0_BadUnit m1_BadUnit m2_BadUnit m3_BadUnit m5_BadUnit "ValueError.__new__"))
    (xs_BadUnit : PySem.W.findIn K (.ref C_BadUnit) "__setattr__" = some (some (.builtin "object.__setattr__")))
    (xg_BadUnit : PySem.W.findIn K (.ref C_BadUnit) "__getattribute__" = some (some (.builtin "BaseException.__getattribute__")))
    (xh_BadUnit : PySem.W.findIn K (.ref C_BadUnit) "__getattr__" = some (none))
    (xc_BadUnit : PySem.W.findIn K (.ref C_BadUnit) "__class__" = some (some (.builtin "object.__class__")))
    (xv_BadUnit : PySem.W.findIn K (.ref C_BadUnit) "given" = some (none))
    (xk_BadUnit : PySem.W.keepIn K (.ref C_BadUnit) = true)
    {g_BadUnit : Addr} {god_BadUnit gan_BadUnit : Option Addr} {gsl_BadUnit : Array (Option Value)} {goc_BadUnit gkV_BadUnit gdc_BadUnit gpm_BadUnit gcd_BadUnit gct_BadUnit : Value}
    (xi_BadUnit : PySem.W.findIn K (.ref C_BadUnit) "__init__" = some (some (.ref g_BadUnit))) (xt_BadUnit : PySem.W.typeIn K (.ref g_BadUnit) = some (.type "function"))
    (gl_BadUnit : K.lookup g_BadUnit = some ⟨goc_BadUnit, god_BadUnit, .func (PySem.W.fnOf "__init__" "BadUnit.__init__" (defArgs si_BadUnit) (defBody si_BadUnit) (defScope si_BadUnit) .none gkV_BadUnit gdc_BadUnit gpm_BadUnit gan_BadUnit gcd_BadUnit gct_BadUnit), gsl_BadUnit⟩) (gc_BadUnit : PySem.W.codeIn K gcd_BadUnit "BadUnit.__init__" = true) (gk_BadUnit : PySem.W.keepIn K (.ref g_BadUnit) = true)
    {C_NoStand N_NoStand : Addr} {q_NoStand : Str} {bs_NoStand sub_NoStand : List Value} {sn_NoStand : List Str} {ab_NoStand : Bool} {col_NoStand : Option Bool} {dd_NoStand : Option Addr} {m0_NoStand m1_NoStand m2_NoStand m3_NoStand m5_NoStand : Option Value}
    (xn_NoStand : PySem.W.nsIn K mainGlobals "NoStand" = some (some (.ref C_NoStand)))
    (xl_NoStand : K.lookup C_NoStand = some (excClassObj "NoStand" q_NoStand C_NoStand N_NoStand bs_NoStand [.ref C_RestError, .type "ValueError", .type "Exception", .type "BaseException", .type "object"] true sn_NoStand sub_NoStand ab_NoStand col_NoStand dd_NoStand m0_NoStand m1_NoStand m2_NoStand m3_NoStand m5_NoStand "ValueError.__new__"))
    (xs_NoStand : PySem.W.findIn K (.ref C_NoStand) "__setattr__" = some (some (.builtin "object.__setattr__")))
    (xg_NoStand : PySem.W.findIn K (.ref C_NoStand) "__getattribute__" = some (some (.builtin "BaseException.__getattribute__")))
    (xh_NoStand : PySem.W.findIn K (.ref C_NoStand) "__getattr__" = some (none))
    (xc_NoStand : PySem.W.findIn K (.ref C_NoStand) "__class__" = some (some (.builtin "object.__class__")))
    (xv_NoStand : PySem.W.findIn K (.ref C_NoStand) "given" = some (none))
    (xk_NoStand : PySem.W.keepIn K (.ref C_NoStand) = true)
    {g_NoStand : Addr} {god_NoStand gan_NoStand : Option Addr} {gsl_NoStand : Array (Option Value)} {goc_NoStand gkV_NoStand gdc_NoStand gpm_NoStand gcd_NoStand gct_NoStand : Value}
    (xi_NoStand : PySem.W.findIn K (.ref C_NoStand) "__init__" = some (some (.ref g_NoStand))) (xt_NoStand : PySem.W.typeIn K (.ref g_NoStand) = some (.type "function"))
    (gl_NoStand : K.lookup g_NoStand = some ⟨goc_NoStand, god_NoStand, .func (PySem.W.fnOf "__init__" "NoStand.__init__" (defArgs si_NoStand) (defBody si_NoStand) (defScope si_NoStand) .none gkV_NoStand gdc_NoStand gpm_NoStand gan_NoStand gcd_NoStand gct_NoStand), gsl_NoStand⟩) (gc_NoStand : PySem.W.codeIn K gcd_NoStand "NoStand.__init__" = true) (gk_NoStand : PySem.W.keepIn K (.ref g_NoStand) = true)
    {C_BadUnits N_BadUnits : Addr} {q_BadUnits : Str} {bs_BadUnits sub_BadUnits : List Value} {sn_BadUnits : List Str} {ab_BadUnits : Bool} {col_BadUnits : Option Bool} {dd_BadUnits : Option Addr} {m0_BadUnits m1_BadUnits m2_BadUnits m3_BadUnits m5_BadUnits : Option Value}
    (xn_BadUnits : PySem.W.nsIn K mainGlobals "BadUnits" = some (some (.ref C_BadUnits)))
    (xl_BadUnits : K.lookup C_BadUnits = some (excClassObj "BadUnits" q_BadUnits C_BadUnits N_BadUnits bs_BadUnits [.ref C_RestError, .type "ValueError", .type "Exception", .type "BaseException", .type "object"] true sn_BadUnits sub_BadUnits ab_BadUnits col_BadUnits dd_BadUnits m0_BadUnits m1_BadUnits m2_BadUnits m3_BadUnits m5_BadUnits "ValueError.__new__"))
    (xs_BadUnits : PySem.W.findIn K (.ref C_BadUnits) "__setattr__" = some (some (.builtin "object.__setattr__")))
    (xg_BadUnits : PySem.W.findIn K (.ref C_BadUnits) "__getattribute__" = some (some (.builtin "BaseException.__getattribute__")))
    (xh_BadUnits : PySem.W.findIn K (.ref C_BadUnits) "__getattr__" = some (none))
    (xc_BadUnits : PySem.W.findIn K (.ref C_BadUnits) "__class__" = some (some (.builtin "object.__class__")))
    (xv_BadUnits : PySem.W.findIn K (.ref C_BadUnits) "given" = some (none))
    (xk_BadUnits : PySem.W.keepIn K (.ref C_BadUnits) = true)
    {g_BadUnits : Addr} {god_BadUnits gan_BadUnits : Option Addr} {gsl_BadUnits : Array (Option Value)} {goc_BadUnits gkV_BadUnits gdc_BadUnits gpm_BadUnits gcd_BadUnits gct_BadUnits : Value}
    (xi_BadUnits : PySem.W.findIn K (.ref C_BadUnits) "__init__" = some (some (.ref g_BadUnits))) (xt_BadUnits : PySem.W.typeIn K (.ref g_BadUnits) = some (.type "function"))
    (gl_BadUnits : K.lookup g_BadUnits = some ⟨goc_BadUnits, god_BadUnits, .func (PySem.W.fnOf "__init__" "BadUnits.__init__" (defArgs si_BadUnits) (defBody si_BadUnits) (defScope si_BadUnits) .none gkV_BadUnits gdc_BadUnits gpm_BadUnits gan_BadUnits gcd_BadUnits gct_BadUnits), gsl_BadUnits⟩) (gc_BadUnits : PySem.W.codeIn K gcd_BadUnits "BadUnits.__init__" = true) (gk_BadUnits : PySem.W.keepIn K (.ref g_BadUnits) = true)
    {C_BadReading N_BadReading : Addr} {q_BadReading : Str} {bs_BadReading sub_BadReading : List Value} {sn_BadReading : List Str} {ab_BadReading : Bool} {col_BadReading : Option Bool} {dd_BadReading : Option Addr} {m0_BadReading m1_BadReading m2_BadReading m3_BadReading m5_BadReading : Option Value}
    (xn_BadReading : PySem.W.nsIn K mainGlobals "BadReading" = some (some (.ref C_BadReading)))
    (xl_BadReading : K.lookup C_BadReading = some (excClassObj "BadReading" q_BadReading C_BadReading N_BadReading bs_BadReading [.ref C_RestError, .type "ValueError", .type "Exception", .type "BaseException", .type "object"] true sn_BadReading sub_BadReading ab_BadReading col_BadReading dd_BadReading m0_BadReading m1_BadReading m2_BadReading m3_BadReading m5_BadReading "ValueError.__new__"))
    (xs_BadReading : PySem.W.findIn K (.ref C_BadReading) "__setattr__" = some (some (.builtin "object.__setattr__")))
    (xg_BadReading : PySem.W.findIn K (.ref C_BadReading) "__getattribute__" = some (some (.builtin "BaseException.__getattribute__")))
    (xh_BadReading : PySem.W.findIn K (.ref C_BadReading) "__getattr__" = some (none))
    (xc_BadReading : PySem.W.findIn K (.ref C_BadReading) "__class__" = some (some (.builtin "object.__class__")))
    (xv_BadReading : PySem.W.findIn K (.ref C_BadReading) "given" = some (none))
    (xk_BadReading : PySem.W.keepIn K (.ref C_BadReading) = true)
    {g_BadReading : Addr} {god_BadReading gan_BadReading : Option Addr} {gsl_BadReading : Array (Option Value)} {goc_BadReading gkV_BadReading gdc_BadReading gpm_BadReading gcd_BadReading gct_BadReading : Value}
    (xi_BadReading : PySem.W.findIn K (.ref C_BadReading) "__init__" = some (some (.ref g_BadReading))) (xt_BadReading : PySem.W.typeIn K (.ref g_BadReading) = some (.type "function"))
    (gl_BadReading : K.lookup g_BadReading = some ⟨goc_BadReading, god_BadReading, .func (PySem.W.fnOf "__init__" "BadReading.__init__" (defArgs si_BadReading) (defBody si_BadReading) (defScope si_BadReading) .none gkV_BadReading gdc_BadReading gpm_BadReading gan_BadReading gcd_BadReading gct_BadReading), gsl_BadReading⟩) (gc_BadReading : PySem.W.codeIn K gcd_BadReading "BadReading.__init__" = true) (gk_BadReading : PySem.W.keepIn K (.ref g_BadReading) = true)
    {C_BadPrices N_BadPrices : Addr} {q_BadPrices : Str} {bs_BadPrices sub_BadPrices : List Value} {sn_BadPrices : List Str} {ab_BadPrices : Bool} {col_BadPrices : Option Bool} {dd_BadPrices : Option Addr} {m0_BadPrices m1_BadPrices m2_BadPrices m3_BadPrices m5_BadPrices : Option Value}
    (xn_BadPrices : PySem.W.nsIn K mainGlobals "BadPrices" = some (some (.ref C_BadPrices)))
    (xl_BadPrices : K.lookup C_BadPrices = some (excClassObj "BadPrices" q_BadPrices C_BadPrices N_BadPrices bs_BadPrices [.ref C_RestError, .type "ValueError", .type "Exception", .type "BaseException", .type "object"] true sn_BadPrices sub_BadPrices ab_BadPrices col_BadPrices dd_BadPrices m0_BadPrices m1_BadPrices m2_BadPrices m3_BadPrices m5_BadPrices "ValueError.__new__"))
    (xs_BadPrices : PySem.W.findIn K (.ref C_BadPrices) "__setattr__" = some (some (.builtin "object.__setattr__")))
    (xg_BadPrices : PySem.W.findIn K (.ref C_BadPrices) "__getattribute__" = some (some (.builtin "BaseException.__getattribute__")))
    (xh_BadPrices : PySem.W.findIn K (.ref C_BadPrices) "__getattr__" = some (none))
    (xc_BadPrices : PySem.W.findIn K (.ref C_BadPrices) "__class__" = some (some (.builtin "object.__class__")))
    (xv_BadPrices : PySem.W.findIn K (.ref C_BadPrices) "given" = some (none))
    (xk_BadPrices : PySem.W.keepIn K (.ref C_BadPrices) = true)
    {g_BadPrices : Addr} {god_BadPrices gan_BadPrices : Option Addr} {gsl_BadPrices : Array (Option Value)} {goc_BadPrices gkV_BadPrices gdc_BadPrices gpm_BadPrices gcd_BadPrices gct_BadPrices : Value}
    (xi_BadPrices : PySem.W.findIn K (.ref C_BadPrices) "__init__" = some (some (.ref g_BadPrices))) (xt_BadPrices : PySem.W.typeIn K (.ref g_BadPrices) = some (.type "function"))
    (gl_BadPrices : K.lookup g_BadPrices = some ⟨goc_BadPrices, god_BadPrices, .func (PySem.W.fnOf "__init__" "BadPrices.__init__" (defArgs si_BadPrices) (defBody si_BadPrices) (defScope si_BadPrices) .none gkV_BadPrices gdc_BadPrices gpm_BadPrices gan_BadPrices gcd_BadPrices gct_BadPrices), gsl_BadPrices⟩) (gc_BadPrices : PySem.W.codeIn K gcd_BadPrices "BadPrices.__init__" = true) (gk_BadPrices : PySem.W.keepIn K (.ref g_BadPrices) = true)
    {C_BadNeed N_BadNeed : Addr} {q_BadNeed : Str} {bs_BadNeed sub_BadNeed : List Value} {sn_BadNeed : List Str} {ab_BadNeed : Bool} {col_BadNeed : Option Bool} {dd_BadNeed : Option Addr} {m0_BadNeed m1_BadNeed m2_BadNeed m3_BadNeed m5_BadNeed : Option Value}
    (xn_BadNeed : PySem.W.nsIn K mainGlobals "BadNeed" = some (some (.ref C_BadNeed)))
    (xl_BadNeed : K.lookup C_BadNeed = some (excClassObj "BadNeed" q_BadNeed C_BadNeed N_BadNeed bs_BadNeed [.ref C_RestError, .type "ValueError", .type "Exception", .type "BaseException", .type "object"] true sn_BadNeed sub_BadNeed ab_BadNeed col_BadNeed dd_BadNeed m0_BadNeed m1_BadNeed m2_BadNeed m3_BadNeed m5_BadNeed "ValueError.__new__"))
    (xs_BadNeed : PySem.W.findIn K (.ref C_BadNeed) "__setattr__" = some (some (.builtin "object.__setattr__")))
    (xg_BadNeed : PySem.W.findIn K (.ref C_BadNeed) "__getattribute__" = some (some (.builtin "BaseException.__getattribute__")))
    (xh_BadNeed : PySem.W.findIn K (.ref C_BadNeed) "__getattr__" = some (none))
    (xc_BadNeed : PySem.W.findIn K (.ref C_BadNeed) "__class__" = some (some (.builtin "object.__class__")))
    (xv_BadNeed : PySem.W.findIn K (.ref C_BadNeed) "given" = some (none))
    (xk_BadNeed : PySem.W.keepIn K (.ref C_BadNeed) = true)
    {g_BadNeed : Addr} {god_BadNeed gan_BadNeed : Option Addr} {gsl_BadNeed : Array (Option Value)} {goc_BadNeed gkV_BadNeed gdc_BadNeed gpm_BadNeed gcd_BadNeed gct_BadNeed : Value}
    (xi_BadNeed : PySem.W.findIn K (.ref C_BadNeed) "__init__" = some (some (.ref g_BadNeed))) (xt_BadNeed : PySem.W.typeIn K (.ref g_BadNeed) = some (.type "function"))
    (gl_BadNeed : K.lookup g_BadNeed = some ⟨goc_BadNeed, god_BadNeed, .func (PySem.W.fnOf "__init__" "BadNeed.__init__" (defArgs si_BadNeed) (defBody si_BadNeed) (defScope si_BadNeed) .none gkV_BadNeed gdc_BadNeed gpm_BadNeed gan_BadNeed gcd_BadNeed gct_BadNeed), gsl_BadNeed⟩) (gc_BadNeed : PySem.W.codeIn K gcd_BadNeed "BadNeed.__init__" = true) (gk_BadNeed : PySem.W.keepIn K (.ref g_BadNeed) = true)
    {C_BadClosed N_BadClosed : Addr} {q_BadClosed : Str} {bs_BadClosed sub_BadClosed : List Value} {sn_BadClosed : List Str} {ab_BadClosed : Bool} {col_BadClosed : Option Bool} {dd_BadClosed : Option Addr} {m0_BadClosed m1_BadClosed m2_BadClosed m3_BadClosed m5_BadClosed : Option Value}
    (xn_BadClosed : PySem.W.nsIn K mainGlobals "BadClosed" = some (some (.ref C_BadClosed)))
    (xl_BadClosed : K.lookup C_BadClosed = some (excClassObj "BadClosed" q_BadClosed C_BadClosed N_BadClosed bs_BadClosed [.ref C_RestError, .type "ValueError", .type "Exception", .type "BaseException", .type "object"] true sn_BadClosed sub_BadClosed ab_BadClosed col_BadClosed dd_BadClosed m0_BadClosed m1_BadClosed m2_BadClosed m3_BadClosed m5_BadClosed "ValueError.__new__"))
    (xs_BadClosed : PySem.W.findIn K (.ref C_BadClosed) "__setattr__" = some (some (.builtin "object.__setattr__")))
    (xg_BadClosed : PySem.W.findIn K (.ref C_BadClosed) "__getattribute__" = some (some (.builtin "BaseException.__getattribute__")))
    (xh_BadClosed : PySem.W.findIn K (.ref C_BadClosed) "__getattr__" = some (none))
    (xc_BadClosed : PySem.W.findIn K (.ref C_BadClosed) "__class__" = some (some (.builtin "object.__class__")))
    (xv_BadClosed : PySem.W.findIn K (.ref C_BadClosed) "given" = some (none))
    (xk_BadClosed : PySem.W.keepIn K (.ref C_BadClosed) = true)
    {g_BadClosed : Addr} {god_BadClosed gan_BadClosed : Option Addr} {gsl_BadClosed : Array (Option Value)} {goc_BadClosed gkV_BadClosed gdc_BadClosed gpm_BadClosed gcd_BadClosed gct_BadClosed : Value}
    (xi_BadClosed : PySem.W.findIn K (.ref C_BadClosed) "__init__" = some (some (.ref g_BadClosed))) (xt_BadClosed : PySem.W.typeIn K (.ref g_BadClosed) = some (.type "function"))
    (gl_BadClosed : K.lookup g_BadClosed = some ⟨goc_BadClosed, god_BadClosed, .func (PySem.W.fnOf "__init__" "BadClosed.__init__" (defArgs si_BadClosed) (defBody si_BadClosed) (defScope si_BadClosed) .none gkV_BadClosed gdc_BadClosed gpm_BadClosed gan_BadClosed gcd_BadClosed gct_BadClosed), gsl_BadClosed⟩) (gc_BadClosed : PySem.W.codeIn K gcd_BadClosed "BadClosed.__init__" = true) (gk_BadClosed : PySem.W.keepIn K (.ref g_BadClosed) = true)
    {C_BadStops N_BadStops : Addr} {q_BadStops : Str} {bs_BadStops sub_BadStops : List Value} {sn_BadStops : List Str} {ab_BadStops : Bool} {col_BadStops : Option Bool} {dd_BadStops : Option Addr} {m0_BadStops m1_BadStops m2_BadStops m3_BadStops m5_BadStops : Option Value}
    (xn_BadStops : PySem.W.nsIn K mainGlobals "BadStops" = some (some (.ref C_BadStops)))
    (xl_BadStops : K.lookup C_BadStops = some (excClassObj "BadStops" q_BadStops C_BadStops N_BadStops bs_BadStops [.ref C_RestError, .type "ValueError", .type "Exception", .type "BaseException", .type "object"] true sn_BadStops sub_BadStops ab_BadStops col_BadStops dd_BadStops m0_BadStops m1_BadStops m2_BadStops m3_BadStops m5_BadStops "ValueError.__new__"))
    (xs_BadStops : PySem.W.findIn K (.ref C_BadStops) "__setattr__" = some (some (.builtin "object.__setattr__")))
    (xg_BadStops : PySem.W.findIn K (.ref C_BadStops) "__getattribute__" = some (some (.builtin "BaseException.__getattribute__")))
    (xh_BadStops : PySem.W.findIn K (.ref C_BadStops) "__getattr__" = some (none))
    (xc_BadStops : PySem.W.findIn K (.ref C_BadStops) "__class__" = some (some (.builtin "object.__class__")))
    (xv_BadStops : PySem.W.findIn K (.ref C_BadStops) "given" = some (none))
    (xk_BadStops : PySem.W.keepIn K (.ref C_BadStops) = true)
    {g_BadStops : Addr} {god_BadStops gan_BadStops : Option Addr} {gsl_BadStops : Array (Option Value)} {goc_BadStops gkV_BadStops gdc_BadStops gpm_BadStops gcd_BadStops gct_BadStops : Value}
    (xi_BadStops : PySem.W.findIn K (.ref C_BadStops) "__init__" = some (some (.ref g_BadStops))) (xt_BadStops : PySem.W.typeIn K (.ref g_BadStops) = some (.type "function"))
    (gl_BadStops : K.lookup g_BadStops = some ⟨goc_BadStops, god_BadStops, .func (PySem.W.fnOf "__init__" "BadStops.__init__" (defArgs si_BadStops) (defBody si_BadStops) (defScope si_BadStops) .none gkV_BadStops gdc_BadStops gpm_BadStops gan_BadStops gcd_BadStops gct_BadStops), gsl_BadStops⟩) (gc_BadStops : PySem.W.codeIn K gcd_BadStops "BadStops.__init__" = true) (gk_BadStops : PySem.W.keepIn K (.ref g_BadStops) = true)
    {C_BadName N_BadName : Addr} {q_BadName : Str} {bs_BadName sub_BadName : List Value} {sn_BadName : List Str} {ab_BadName : Bool} {col_BadName : Option Bool} {dd_BadName : Option Addr} {m0_BadName m1_BadName m2_BadName m3_BadName m5_BadName : Option Value}
    (xn_BadName : PySem.W.nsIn K mainGlobals "BadName" = some (some (.ref C_BadName)))
    (xl_BadName : K.lookup C_BadName = some (excClassObj "BadName" q_BadName C_BadName N_BadName bs_BadName [.ref C_RestError, .type "ValueError", .type "Exception", .type "BaseException", .type "object"] true sn_BadName sub_BadName ab_BadName col_BadName dd_BadName m0_BadName m1_BadName m2_BadName m3_BadName m5_BadName "ValueError.__new__"))
    (xs_BadName : PySem.W.findIn K (.ref C_BadName) "__setattr__" = some (some (.builtin "object.__setattr__")))
    (xg_BadName : PySem.W.findIn K (.ref C_BadName) "__getattribute__" = some (some (.builtin "BaseException.__getattribute__")))
    (xh_BadName : PySem.W.findIn K (.ref C_BadName) "__getattr__" = some (none))
    (xc_BadName : PySem.W.findIn K (.ref C_BadName) "__class__" = some (some (.builtin "object.__class__")))
    (xv_BadName : PySem.W.findIn K (.ref C_BadName) "given" = some (none))
    (xk_BadName : PySem.W.keepIn K (.ref C_BadName) = true)
    {g_BadName : Addr} {god_BadName gan_BadName : Option Addr} {gsl_BadName : Array (Option Value)} {goc_BadName gkV_BadName gdc_BadName gpm_BadName gcd_BadName gct_BadName : Value}
    (xi_BadName : PySem.W.findIn K (.ref C_BadName) "__init__" = some (some (.ref g_BadName))) (xt_BadName : PySem.W.typeIn K (.ref g_BadName) = some (.type "function"))
    (gl_BadName : K.lookup g_BadName = some ⟨goc_BadName, god_BadName, .func (PySem.W.fnOf "__init__" "BadName.__init__" (defArgs si_BadName) (defBody si_BadName) (defScope si_BadName) .none gkV_BadName gdc_BadName gpm_BadName gan_BadName gcd_BadName gct_BadName), gsl_BadName⟩) (gc_BadName : PySem.W.codeIn K gcd_BadName "BadName.__init__" = true) (gk_BadName : PySem.W.keepIn K (.ref g_BadName) = true)
    {C_NoNews N_NoNews : Addr} {q_NoNews : Str} {bs_NoNews sub_NoNews : List Value} {sn_NoNews : List Str} {ab_NoNews : Bool} {col_NoNews : Option Bool} {dd_NoNews : Option Addr} {m0_NoNews m1_NoNews m2_NoNews m3_NoNews m5_NoNews : Option Value}
    (xn_NoNews : PySem.W.nsIn K mainGlobals "NoNews" = some (some (.ref C_NoNews)))
    (xl_NoNews : K.lookup C_NoNews = some (excClassObj "NoNews" q_NoNews C_NoNews N_NoNews bs_NoNews [.ref C_RestError, .type "ValueError", .type "Exception", .type "BaseException", .type "object"] true sn_NoNews sub_NoNews ab_NoNews col_NoNews dd_NoNews m0_NoNews m1_NoNews m2_NoNews m3_NoNews m5_NoNews "ValueError.__new__"))
    (xs_NoNews : PySem.W.findIn K (.ref C_NoNews) "__setattr__" = some (some (.builtin "object.__setattr__")))
    (xg_NoNews : PySem.W.findIn K (.ref C_NoNews) "__getattribute__" = some (some (.builtin "BaseException.__getattribute__")))
    (xh_NoNews : PySem.W.findIn K (.ref C_NoNews) "__getattr__" = some (none))
    (xc_NoNews : PySem.W.findIn K (.ref C_NoNews) "__class__" = some (some (.builtin "object.__class__")))
    (xv_NoNews : PySem.W.findIn K (.ref C_NoNews) "given" = some (none))
    (xk_NoNews : PySem.W.keepIn K (.ref C_NoNews) = true)
    {g_NoNews : Addr} {god_NoNews gan_NoNews : Option Addr} {gsl_NoNews : Array (Option Value)} {goc_NoNews gkV_NoNews gdc_NoNews gpm_NoNews gcd_NoNews gct_NoNews : Value}
    (xi_NoNews : PySem.W.findIn K (.ref C_NoNews) "__init__" = some (some (.ref g_NoNews))) (xt_NoNews : PySem.W.typeIn K (.ref g_NoNews) = some (.type "function"))
    (gl_NoNews : K.lookup g_NoNews = some ⟨goc_NoNews, god_NoNews, .func (PySem.W.fnOf "__init__" "NoNews.__init__" (defArgs si_NoNews) (defBody si_NoNews) (defScope si_NoNews) .none gkV_NoNews gdc_NoNews gpm_NoNews gan_NoNews gcd_NoNews gct_NoNews), gsl_NoNews⟩) (gc_NoNews : PySem.W.codeIn K gcd_NoNews "NoNews.__init__" = true) (gk_NoNews : PySem.W.keepIn K (.ref g_NoNews) = true)
    {C_TooMany N_TooMany : Addr} {q_TooMany : Str} {bs_TooMany sub_TooMany : List Value} {sn_TooMany : List Str} {ab_TooMany : Bool} {col_TooMany : Option Bool} {dd_TooMany : Option Addr} {m0_TooMany m1_TooMany m2_TooMany m3_TooMany m5_TooMany : Option Value}
    (xn_TooMany : PySem.W.nsIn K mainGlobals "TooMany" = some (some (.ref C_TooMany)))
    (xl_TooMany : K.lookup C_TooMany = some (excClassObj "TooMany" q_TooMany C_TooMany N_TooMany bs_TooMany [.ref C_RestError, .type "ValueError", .type "Exception", .type "BaseException", .type "object"] true sn_TooMany sub_TooMany ab_TooMany col_TooMany dd_TooMany m0_TooMany m1_TooMany m2_TooMany m3_TooMany m5_TooMany "ValueError.__new__"))
    (xs_TooMany : PySem.W.findIn K (.ref C_TooMany) "__setattr__" = some (some (.builtin "object.__setattr__")))
    (xg_TooMany : PySem.W.findIn K (.ref C_TooMany) "__getattribute__" = some (some (.builtin "BaseException.__getattribute__")))
    (xh_TooMany : PySem.W.findIn K (.ref C_TooMany) "__getattr__" = some (none))
    (xc_TooMany : PySem.W.findIn K (.ref C_TooMany) "__class__" = some (some (.builtin "object.__class__")))
    (xv_TooMany : PySem.W.findIn K (.ref C_TooMany) "given" = some (none))
    (xk_TooMany : PySem.W.keepIn K (.ref C_TooMany) = true)
    (xq_TooMany : PySem.W.excIn K C_TooMany [.type "ValueError", .type "Exception", .type "BaseException", .type "object"] "ValueError.__new__" = true)
    {C_NothingToUndo N_NothingToUndo : Addr} {q_NothingToUndo : Str} {bs_NothingToUndo sub_NothingToUndo : List Value} {sn_NothingToUndo : List Str} {ab_NothingToUndo : Bool} {col_NothingToUndo : Option Bool} {dd_NothingToUndo : Option Addr} {m0_NothingToUndo m1_NothingToUndo m2_NothingToUndo m3_NothingToUndo m5_NothingToUndo : Option Value}
    (xn_NothingToUndo : PySem.W.nsIn K mainGlobals "NothingToUndo" = some (some (.ref C_NothingToUndo)))
    (xl_NothingToUndo : K.lookup C_NothingToUndo = some (excClassObj "NothingToUndo" q_NothingToUndo C_NothingToUndo N_NothingToUndo bs_NothingToUndo [.ref C_RestError, .type "ValueError", .type "Exception", .type "BaseException", .type "object"] true sn_NothingToUndo sub_NothingToUndo ab_NothingToUndo col_NothingToUndo dd_NothingToUndo m0_NothingToUndo m1_NothingToUndo m2_NothingToUndo m3_NothingToUndo m5_NothingToUndo "ValueError.__new__"))
    (xs_NothingToUndo : PySem.W.findIn K (.ref C_NothingToUndo) "__setattr__" = some (some (.builtin "object.__setattr__")))
    (xg_NothingToUndo : PySem.W.findIn K (.ref C_NothingToUndo) "__getattribute__" = some (some (.builtin "BaseException.__getattribute__")))
    (xh_NothingToUndo : PySem.W.findIn K (.ref C_NothingToUndo) "__getattr__" = some (none))
    (xc_NothingToUndo : PySem.W.findIn K (.ref C_NothingToUndo) "__class__" = some (some (.builtin "object.__class__")))
    (xv_NothingToUndo : PySem.W.findIn K (.ref C_NothingToUndo) "given" = some (none))
    (xk_NothingToUndo : PySem.W.keepIn K (.ref C_NothingToUndo) = true)
    (xq_NothingToUndo : PySem.W.excIn K C_NothingToUndo [.type "ValueError", .type "Exception", .type "BaseException", .type "object"] "ValueError.__new__" = true)
    (noT : PySem.W.noTabs K = true) (tdis : ([P21] : List Addr).Nodup) (TO : TabsOf K ["law"] h)
    : LamX.LawAtS l w K (L2.CX l.prog w) 9 63 "_law_script" mg fa h := by
  have tt21 := TO "law" (by simp) _ _ (tabIn_of a21 l21 rfl tl21 th21)
  have csT : ∀ p ∈ ([(lc21, P21)] : List (Addr × Addr)), PySem.W.CodeHd h p.1 p.2 ∧ h.get? p.2 = some (PySem.W.tabObj #[]) := by
    intro p hp
    simp only [List.mem_cons, List.not_mem_nil, or_false] at hp
    rcases hp with rfl
    · exact tt21
  have tbs : Tbs (LamE.mk lamS (fun i => ([P21, P21, P21, P21, P21] : List Addr).getD i 0)) 5 (tabM [(P21, (lamS 0).qual)]) := fun i hi => match i, hi with
    | 0, _ => tabM_at (T := [(P21, (lamS 0).qual)]) tdis (by rw [show (lamS 0).qual = (lamS 0).qual from rfl]; simp)
    | 1, _ => tabM_at (T := [(P21, (lamS 0).qual)]) tdis (by rw [show (lamS 1).qual = (lamS 0).qual from rfl]; simp)
    | 2, _ => tabM_at (T := [(P21, (lamS 0).qual)]) tdis (by rw [show (lamS 2).qual = (lamS 0).qual from rfl]; simp)
    | 3, _ => tabM_at (T := [(P21, (lamS 0).qual)]) tdis (by rw [show (lamS 3).qual = (lamS 0).qual from rfl]; simp)
    | 4, _ => tabM_at (T := [(P21, (lamS 0).qual)]) tdis (by rw [show (lamS 4).qual = (lamS 0).qual from rfl]; simp)
    | n + 5, h => absurd h (by omega)
  have e := hfa.symm.trans (PySem.W.mg_of X G a21)
  cases e
  have ex_RestError : ExF K C_RestError "RestError" C_RestError := ⟨xn_RestError, ⟨_, _, _, _, _, _, _, _, _, _, _, _, _, by rw [bmOf_rest]; exact xl_RestError⟩, xs_RestError, xg_RestError, xh_RestError, xc_RestError, xv_RestError, xk_RestError⟩
  have ex_BadRow : ExF K C_RestError "BadRow" C_BadRow := ⟨xn_BadRow, ⟨_, _, _, _, _, _, _, _, _, _, _, _, _, by rw [bmOf_other (by decide)]; exact xl_BadRow⟩, xs_BadRow, xg_BadRow, xh_BadRow, xc_BadRow, xv_BadRow, xk_BadRow⟩
  have ex_BadText : ExF K C_RestError "BadText" C_BadText := ⟨xn_BadText, ⟨_, _, _, _, _, _, _, _, _, _, _, _, _, by rw [bmOf_other (by decide)]; exact xl_BadText⟩, xs_BadText, xg_BadText, xh_BadText, xc_BadText, xv_BadText, xk_BadText⟩
  have ex_BadKinds : ExF K C_RestError "BadKinds" C_BadKinds := ⟨xn_BadKinds, ⟨_, _, _, _, _, _, _, _, _, _, _, _, _, by rw [bmOf_other (by decide)]; exact xl_BadKinds⟩, xs_BadKinds, xg_BadKinds, xh_BadKinds, xc_BadKinds, xv_BadKinds, xk_BadKinds⟩
  have ex_BadMost : ExF K C_RestError "BadMost" C_BadMost := ⟨xn_BadMost, ⟨_, _, _, _, _, _, _, _, _, _, _, _, _, by rw [bmOf_other (by decide)]; exact xl_BadMost⟩, xs_BadMost, xg_BadMost, xh_BadMost, xc_BadMost, xv_BadMost, xk_BadMost⟩
  have ex_BadWays : ExF K C_RestError "BadWays" C_BadWays := ⟨xn_BadWays, ⟨_, _, _, _, _, _, _, _, _, _, _, _, _, by rw [bmOf_other (by decide)]; exact xl_BadWays⟩, xs_BadWays, xg_BadWays, xh_BadWays, xc_BadWays, xv_BadWays, xk_BadWays⟩
  have ex_BadLimits : ExF K C_RestError "BadLimits" C_BadLimits := ⟨xn_BadLimits, ⟨_, _, _, _, _, _, _, _, _, _, _, _, _, by rw [bmOf_other (by decide)]; exact xl_BadLimits⟩, xs_BadLimits, xg_BadLimits, xh_BadLimits, xc_BadLimits, xv_BadLimits, xk_BadLimits⟩
  have ex_BadUnit : ExF K C_RestError "BadUnit" C_BadUnit := ⟨xn_BadUnit, ⟨_, _, _, _, _, _, _, _, _, _, _, _, _, by rw [bmOf_other (by decide)]; exact xl_BadUnit⟩, xs_BadUnit, xg_BadUnit, xh_BadUnit, xc_BadUnit, xv_BadUnit, xk_BadUnit⟩
  have ex_NoStand : ExF K C_RestError "NoStand" C_NoStand := ⟨xn_NoStand, ⟨_, _, _, _, _, _, _, _, _, _, _, _, _, by rw [bmOf_other (by decide)]; exact xl_NoStand⟩, xs_NoStand, xg_NoStand, xh_NoStand, xc_NoStand, xv_NoStand, xk_NoStand⟩
  have ex_BadUnits : ExF K C_RestError "BadUnits" C_BadUnits := ⟨xn_BadUnits, ⟨_, _, _, _, _, _, _, _, _, _, _, _, _, by rw [bmOf_other (by decide)]; exact xl_BadUnits⟩, xs_BadUnits, xg_BadUnits, xh_BadUnits, xc_BadUnits, xv_BadUnits, xk_BadUnits⟩
  have ex_BadReading : ExF K C_RestError "BadReading" C_BadReading := ⟨xn_BadReading, ⟨_, _, _, _, _, _, _, _, _, _, _, _, _, by rw [bmOf_other (by decide)]; exact xl_BadReading⟩, xs_BadReading, xg_BadReading, xh_BadReading, xc_BadReading, xv_BadReading, xk_BadReading⟩
  have ex_BadPrices : ExF K C_RestError "BadPrices" C_BadPrices := ⟨xn_BadPrices, ⟨_, _, _, _, _, _, _, _, _, _, _, _, _, by rw [bmOf_other (by decide)]; exact xl_BadPrices⟩, xs_BadPrices, xg_BadPrices, xh_BadPrices, xc_BadPrices, xv_BadPrices, xk_BadPrices⟩
  have ex_BadNeed : ExF K C_RestError "BadNeed" C_BadNeed := ⟨xn_BadNeed, ⟨_, _, _, _, _, _, _, _, _, _, _, _, _, by rw [bmOf_other (by decide)]; exact xl_BadNeed⟩, xs_BadNeed, xg_BadNeed, xh_BadNeed, xc_BadNeed, xv_BadNeed, xk_BadNeed⟩
  have ex_BadClosed : ExF K C_RestError "BadClosed" C_BadClosed := ⟨xn_BadClosed, ⟨_, _, _, _, _, _, _, _, _, _, _, _, _, by rw [bmOf_other (by decide)]; exact xl_BadClosed⟩, xs_BadClosed, xg_BadClosed, xh_BadClosed, xc_BadClosed, xv_BadClosed, xk_BadClosed⟩
  have ex_BadStops : ExF K C_RestError "BadStops" C_BadStops := ⟨xn_BadStops, ⟨_, _, _, _, _, _, _, _, _, _, _, _, _, by rw [bmOf_other (by decide)]; exact xl_BadStops⟩, xs_BadStops, xg_BadStops, xh_BadStops, xc_BadStops, xv_BadStops, xk_BadStops⟩
  have ex_BadName : ExF K C_RestError "BadName" C_BadName := ⟨xn_BadName, ⟨_, _, _, _, _, _, _, _, _, _, _, _, _, by rw [bmOf_other (by decide)]; exact xl_BadName⟩, xs_BadName, xg_BadName, xh_BadName, xc_BadName, xv_BadName, xk_BadName⟩
  have ex_NoNews : ExF K C_RestError "NoNews" C_NoNews := ⟨xn_NoNews, ⟨_, _, _, _, _, _, _, _, _, _, _, _, _, by rw [bmOf_other (by decide)]; exact xl_NoNews⟩, xs_NoNews, xg_NoNews, xh_NoNews, xc_NoNews, xv_NoNews, xk_NoNews⟩
  have ex_TooMany : ExF K C_RestError "TooMany" C_TooMany := ⟨xn_TooMany, ⟨_, _, _, _, _, _, _, _, _, _, _, _, _, by rw [bmOf_other (by decide)]; exact xl_TooMany⟩, xs_TooMany, xg_TooMany, xh_TooMany, xc_TooMany, xv_TooMany, xk_TooMany⟩
  have ex_NothingToUndo : ExF K C_RestError "NothingToUndo" C_NothingToUndo := ⟨xn_NothingToUndo, ⟨_, _, _, _, _, _, _, _, _, _, _, _, _, by rw [bmOf_other (by decide)]; exact xl_NothingToUndo⟩, xs_NothingToUndo, xg_NothingToUndo, xh_NothingToUndo, xc_NothingToUndo, xv_NothingToUndo, xk_NothingToUndo⟩
  have tab : Tab K := tab_mk [some C_RestError, some C_BadRow, some C_BadText, some C_BadKinds, some C_BadMost, some C_BadWays, some C_BadUnit, some C_BadUnits, some C_BadLimits, some C_TooMany, some C_NoStand, some C_BadReading, some C_BadPrices, some C_BadStops, some C_BadNeed, some C_BadName, some C_BadClosed, some C_NoNews, some C_NothingToUndo] ex_RestError ⟨ex_RestError, ex_BadRow, ex_BadText, ex_BadKinds, ex_BadMost, ex_BadWays, ex_BadUnit, ex_BadUnits, ex_BadLimits, ex_TooMany, ex_NoStand, ex_BadReading, ex_BadPrices, ex_BadStops, ex_BadNeed, ex_BadName, ex_BadClosed, ex_NoNews, ex_NothingToUndo, trivial⟩
  have bas : BaseK K mg "RestError" := ⟨⟨_, PySem.W.mg_of X G xn_RestError, xk_RestError, ⟨br, bg⟩, bi⟩⟩
  have E : LawEnv K mg := {
    nob := by
      intro x hx
      simp only [List.mem_cons, List.not_mem_nil, or_false] at hx
      rcases hx with rfl | rfl | rfl | rfl | rfl | rfl | rfl | rfl | rfl | rfl | rfl
      · exact PySem.W.mg_none_of X G z0
      · exact PySem.W.mg_none_of X G z1
      · exact PySem.W.mg_none_of X G z2
      · exact PySem.W.mg_none_of X G z3
      · exact PySem.W.mg_none_of X G z4
      · exact PySem.W.mg_none_of X G z5
      · exact PySem.W.mg_none_of X G z6
      · exact PySem.W.mg_none_of X G z7
      · exact PySem.W.mg_none_of X G z8
      · exact PySem.W.mg_none_of X G z9
      · exact PySem.W.mg_none_of X G z10
    c_MOST_UNITS := ⟨t0, PySem.W.mg_of X G y0⟩
    c_LETTERS := ⟨t1, PySem.W.mg_of X G y1⟩
    tab := tab
    ve := ve_mk [some C_RestError, some C_BadRow, some C_BadText, some C_BadKinds, some C_BadMost, some C_BadWays, some C_BadUnit, some C_BadUnits, some C_BadLimits, some C_TooMany, some C_NoStand, some C_BadReading, some C_BadPrices, some C_BadStops, some C_BadNeed, some C_BadName, some C_BadClosed, some C_NoNews, some C_NothingToUndo] ex_RestError ⟨ex_RestError, ex_BadRow, ex_BadText, ex_BadKinds, ex_BadMost, ex_BadWays, ex_BadUnit, ex_BadUnits, ex_BadLimits, ex_TooMany, ex_NoStand, ex_BadReading, ex_BadPrices, ex_BadStops, ex_BadNeed, ex_BadName, ex_BadClosed, ex_NoNews, ex_NothingToUndo, trivial⟩
    m_BadMost := ⟨_, PySem.W.mg_of X G xn_BadMost, by decide, xn_BadMost⟩
    m_BadLimits := ⟨_, PySem.W.mg_of X G xn_BadLimits, by decide, xn_BadLimits⟩
    m_BadKinds := ⟨_, PySem.W.mg_of X G xn_BadKinds, by decide, xn_BadKinds⟩
    m_BadClosed := ⟨_, PySem.W.mg_of X G xn_BadClosed, by decide, xn_BadClosed⟩
    m_BadReading := ⟨_, PySem.W.mg_of X G xn_BadReading, by decide, xn_BadReading⟩
    m_BadPrices := ⟨_, PySem.W.mg_of X G xn_BadPrices, by decide, xn_BadPrices⟩
    m_BadNeed := ⟨_, PySem.W.mg_of X G xn_BadNeed, by decide, xn_BadNeed⟩
    m_BadName := ⟨_, PySem.W.mg_of X G xn_BadName, by decide, xn_BadName⟩
    m_BadUnit := ⟨_, PySem.W.mg_of X G xn_BadUnit, by decide, xn_BadUnit⟩
    m_BadText := ⟨_, PySem.W.mg_of X G xn_BadText, by decide, xn_BadText⟩
    m_BadStops := ⟨_, PySem.W.mg_of X G xn_BadStops, by decide, xn_BadStops⟩
    m_BadRow := ⟨_, PySem.W.mg_of X G xn_BadRow, by decide, xn_BadRow⟩
    m_NoStand := ⟨_, PySem.W.mg_of X G xn_NoStand, by decide, xn_NoStand⟩
    m_NoNews := ⟨_, PySem.W.mg_of X G xn_NoNews, by decide, xn_NoNews⟩
    m_BadWays := ⟨_, PySem.W.mg_of X G xn_BadWays, by decide, xn_BadWays⟩
    m_BadUnits := ⟨_, PySem.W.mg_of X G xn_BadUnits, by decide, xn_BadUnits⟩
    m_TooMany := ⟨_, PySem.W.mg_of X G xn_TooMany, by decide, xn_TooMany⟩
    m_NothingToUndo := ⟨_, PySem.W.mg_of X G xn_NothingToUndo, by decide, xn_NothingToUndo⟩
    m_RestError := ⟨_, PySem.W.mg_of X G xn_RestError, by decide, xn_RestError⟩
  }
  refine ⟨PySem.W.fnOf "law" "law" (defArgs s_law) (defBody s_law) (defScope s_law) .none kV21 dc21 pm21 an21 (.ref lc21) ct21, [(lc21, P21)], lowSp K (sp_law (LamE.mk lamS (fun i => ([P21, P21, P21, P21, P21] : List Addr).getD i 0))), fun p hp => (csT p hp).2, fun p hp => tabs_out X noT (csT p hp).2, fun p hp => (csT p hp).1, fun s v => .of_eq rfl, fun H a ns _ _ hT hS => law_hereT (T := [(P21, (lamS 0).qual)]) ?tt hS ⟨ns, rfl, tbs, fun _ => rfl⟩, fun base _ _ TB => ?_⟩
  case tt =>
    intro p hp
    simp only [List.mem_cons, List.not_mem_nil, or_false] at hp
    rcases hp with rfl
    · exact hT (lc21, P21) (by simp)
  have Fx_BadRow := fun_mk (st := si_BadRow) gl_BadRow gc_BadRow gk_BadRow
  have x_BadRow : ExcD l.prog w K mg base 1 "BadRow" := excD_mk ex_BadRow (by decide) (PySem.W.mg_of X G xn_BadRow) xi_BadRow xt_BadRow (okx_BadRow bas Fx_BadRow) (Fx_BadRow.binds (ps := ["self", "given"]) fun _ _ _ _ _ _ us hl => (match us, hl with | [_, _], _ => rfl))
  have Fx_BadKinds := fun_mk (st := si_BadKinds) gl_BadKinds gc_BadKinds gk_BadKinds
  have x_BadKinds : ExcD l.prog w K mg base 1 "BadKinds" := excD_mk ex_BadKinds (by decide) (PySem.W.mg_of X G xn_BadKinds) xi_BadKinds xt_BadKinds (okx_BadKinds bas Fx_BadKinds) (Fx_BadKinds.binds (ps := ["self", "given"]) fun _ _ _ _ _ _ us hl => (match us, hl with | [_, _], _ => rfl))
  have Fx_BadMost := fun_mk (st := si_BadMost) gl_BadMost gc_BadMost gk_BadMost
  have x_BadMost : ExcD l.prog w K mg base 1 "BadMost" := excD_mk ex_BadMost (by decide) (PySem.W.mg_of X G xn_BadMost) xi_BadMost xt_BadMost (okx_BadMost bas Fx_BadMost) (Fx_BadMost.binds (ps := ["self", "given"]) fun _ _ _ _ _ _ us hl => (match us, hl with | [_, _], _ => rfl))
  have Fx_BadLimits := fun_mk (st := si_BadLimits) gl_BadLimits gc_BadLimits gk_BadLimits
  have x_BadLimits : ExcD l.prog w K mg base 1 "BadLimits" := excD_mk ex_BadLimits (by decide) (PySem.W.mg_of X G xn_BadLimits) xi_BadLimits xt_BadLimits (okx_BadLimits bas Fx_BadLimits) (Fx_BadLimits.binds (ps := ["self", "given"]) fun _ _ _ _ _ _ us hl => (match us, hl with | [_, _], _ => rfl))
  have Fx_BadClosed := fun_mk (st := si_BadClosed) gl_BadClosed gc_BadClosed gk_BadClosed
  have x_BadClosed : ExcD l.prog w K mg base 1 "BadClosed" := excD_mk ex_BadClosed (by decide) (PySem.W.mg_of X G xn_BadClosed) xi_BadClosed xt_BadClosed (okx_BadClosed bas Fx_BadClosed) (Fx_BadClosed.binds (ps := ["self", "given"]) fun _ _ _ _ _ _ us hl => (match us, hl with | [_, _], _ => rfl))
  have Fx_BadReading := fun_mk (st := si_BadReading) gl_BadReading gc_BadReading gk_BadReading
  have x_BadReading : ExcD l.prog w K mg base 1 "BadReading" := excD_mk ex_BadReading (by decide) (PySem.W.mg_of X G xn_BadReading) xi_BadReading xt_BadReading (okx_BadReading bas Fx_BadReading) (Fx_BadReading.binds (ps := ["self", "given"]) fun _ _ _ _ _ _ us hl => (match us, hl with | [_, _], _ => rfl))
  have Fx_BadPrices := fun_mk (st := si_BadPrices) gl_BadPrices gc_BadPrices gk_BadPrices
  have x_BadPrices : ExcD l.prog w K mg base 1 "BadPrices" := excD_mk ex_BadPrices (by decide) (PySem.W.mg_of X G xn_BadPrices) xi_BadPrices xt_BadPrices (okx_BadPrices bas Fx_BadPrices) (Fx_BadPrices.binds (ps := ["self", "given"]) fun _ _ _ _ _ _ us hl => (match us, hl with | [_, _], _ => rfl))
  have Fx_BadNeed := fun_mk (st := si_BadNeed) gl_BadNeed gc_BadNeed gk_BadNeed
  have x_BadNeed : ExcD l.prog w K mg base 1 "BadNeed" := excD_mk ex_BadNeed (by decide) (PySem.W.mg_of X G xn_BadNeed) xi_BadNeed xt_BadNeed (okx_BadNeed bas Fx_BadNeed) (Fx_BadNeed.binds (ps := ["self", "given"]) fun _ _ _ _ _ _ us hl => (match us, hl with | [_, _], _ => rfl))
  have Fx_BadName := fun_mk (st := si_BadName) gl_BadName gc_BadName gk_BadName
  have x_BadName : ExcD l.prog w K mg base 1 "BadName" := excD_mk ex_BadName (by decide) (PySem.W.mg_of X G xn_BadName) xi_BadName xt_BadName (okx_BadName bas Fx_BadName) (Fx_BadName.binds (ps := ["self", "given"]) fun _ _ _ _ _ _ us hl => (match us, hl with | [_, _], _ => rfl))
  have Fx_BadUnit := fun_mk (st := si_BadUnit) gl_BadUnit gc_BadUnit gk_BadUnit
  have x_BadUnit : ExcD l.prog w K mg base 1 "BadUnit" := excD_mk ex_BadUnit (by decide) (PySem.W.mg_of X G xn_BadUnit) xi_BadUnit xt_BadUnit (okx_BadUnit bas Fx_BadUnit) (Fx_BadUnit.binds (ps := ["self", "given"]) fun _ _ _ _ _ _ us hl => (match us, hl with | [_, _], _ => rfl))
  have Fx_BadText := fun_mk (st := si_BadText) gl_BadText gc_BadText gk_BadText
  have x_BadText : ExcD l.prog w K mg base 1 "BadText" := excD_mk ex_BadText (by decide) (PySem.W.mg_of X G xn_BadText) xi_BadText xt_BadText (okx_BadText bas Fx_BadText) (Fx_BadText.binds (ps := ["self", "given"]) fun _ _ _ _ _ _ us hl => (match us, hl with | [_, _], _ => rfl))
  have Fx_BadStops := fun_mk (st := si_BadStops) gl_BadStops gc_BadStops gk_BadStops
  have x_BadStops : ExcD l.prog w K mg base 1 "BadStops" := excD_mk ex_BadStops (by decide) (PySem.W.mg_of X G xn_BadStops) xi_BadStops xt_BadStops (okx_BadStops bas Fx_BadStops) (Fx_BadStops.binds (ps := ["self", "given"]) fun _ _ _ _ _ _ us hl => (match us, hl with | [_, _], _ => rfl))
  have Fx_NoStand := fun_mk (st := si_NoStand) gl_NoStand gc_NoStand gk_NoStand
  have x_NoStand : ExcD l.prog w K mg base 1 "NoStand" := excD_mk ex_NoStand (by decide) (PySem.W.mg_of X G xn_NoStand) xi_NoStand xt_NoStand (okx_NoStand bas Fx_NoStand) (Fx_NoStand.binds (ps := ["self", "given"]) fun _ _ _ _ _ _ us hl => (match us, hl with | [_, _], _ => rfl))
  have Fx_NoNews := fun_mk (st := si_NoNews) gl_NoNews gc_NoNews gk_NoNews
  have x_NoNews : ExcD l.prog w K mg base 1 "NoNews" := excD_mk ex_NoNews (by decide) (PySem.W.mg_of X G xn_NoNews) xi_NoNews xt_NoNews (okx_NoNews bas Fx_NoNews) (Fx_NoNews.binds (ps := ["self", "given"]) fun _ _ _ _ _ _ us hl => (match us, hl with | [_, _], _ => rfl))
  have Fx_BadWays := fun_mk (st := si_BadWays) gl_BadWays gc_BadWays gk_BadWays
  have x_BadWays : ExcD l.prog w K mg base 1 "BadWays" := excD_mk ex_BadWays (by decide) (PySem.W.mg_of X G xn_BadWays) xi_BadWays xt_BadWays (okx_BadWays bas Fx_BadWays) (Fx_BadWays.binds (ps := ["self", "given"]) fun _ _ _ _ _ _ us hl => (match us, hl with | [_, _], _ => rfl))
  have Fx_BadUnits := fun_mk (st := si_BadUnits) gl_BadUnits gc_BadUnits gk_BadUnits
  have x_BadUnits : ExcD l.prog w K mg base 1 "BadUnits" := excD_mk ex_BadUnits (by decide) (PySem.W.mg_of X G xn_BadUnits) xi_BadUnits xt_BadUnits (okx_BadUnits bas Fx_BadUnits) (Fx_BadUnits.binds (ps := ["self", "given"]) fun _ _ _ _ _ _ us hl => (match us, hl with | [_, _], _ => rfl))
  have x0_TooMany : Exc0D K mg "TooMany" := ⟨⟨_, _, _, _, _, F.excBase_ValueError, xq_TooMany, PySem.W.mg_of X G xn_TooMany, xk_TooMany, ex_TooMany.exC, ex_TooMany.tyC, by decide, xn_TooMany⟩⟩
  have x0_NothingToUndo : Exc0D K mg "NothingToUndo" := ⟨⟨_, _, _, _, _, F.excBase_ValueError, xq_NothingToUndo, PySem.W.mg_of X G xn_NothingToUndo, xk_NothingToUndo, ex_NothingToUndo.exC, ex_NothingToUndo.tyC, by decide, xn_NothingToUndo⟩⟩
  have x0_RestError : Exc0D K mg "RestError" := ⟨⟨_, _, _, _, _, F.excBase_ValueError, xq_RestError, PySem.W.mg_of X G xn_RestError, xk_RestError, ex_RestError.exC, ex_RestError.tyC, by decide, xn_RestError⟩⟩
  have F_is_row := fun_mk (st := s_is_row) l0 c0 k0
  have o_is_row := ok_is_row (base := base) (P := l.prog) (w := w) E F_is_row
  have c_is_row : CalD l.prog w K mg base 1 "is_row" ["value"] sp_is_row := ⟨f0, _, o_is_row, F_is_row.binds (ps := ["value"]) fun _ _ _ _ _ _ us hl => (match us, hl with | [_], _ => rfl), PySem.W.mg_of X G a0, k0⟩
  have F__law_bag := fun_mk (st := s__law_bag) l1 c1 k1
  have o__law_bag := ok__law_bag (base := base) (P := l.prog) (w := w) E F__law_bag
  have c__law_bag : CalD l.prog w K mg base 1 "_law_bag" ["_law_script"] sp__law_bag := ⟨f1, _, o__law_bag, F__law_bag.binds (ps := ["_law_script"]) fun _ _ _ _ _ _ us hl => (match us, hl with | [_], _ => rfl), PySem.W.mg_of X G a1, k1⟩
  have F__law_draw := fun_mk (st := s__law_draw) l2 c2 k2
  have o__law_draw := ok__law_draw (base := base) (P := l.prog) (w := w) E F__law_draw
  have c__law_draw : CalD l.prog w K mg base 1 "_law_draw" ["_law_bag_here", "_law_size"] sp__law_draw := ⟨f2, _, o__law_draw, F__law_draw.binds (ps := ["_law_bag_here", "_law_size"]) fun _ _ _ _ _ _ us hl => (match us, hl with | [_, _], _ => rfl), PySem.W.mg_of X G a2, k2⟩
  have F__law_classes := fun_mk (st := s__law_classes) l3 c3 k3
  have o__law_classes := ok__law_classes (base := base) (P := l.prog) (w := w) E F__law_classes
  have c__law_classes : CalD l.prog w K mg base 1 "_law_classes" ["_law_e"] sp__law_classes := ⟨f3, _, o__law_classes, F__law_classes.binds (ps := ["_law_e"]) fun _ _ _ _ _ _ us hl => (match us, hl with | [_], _ => rfl), PySem.W.mg_of X G a3, k3⟩
  have F_is_kinds := fun_mk (st := s_is_kinds) l4 c4 k4
  have o_is_kinds := ok_is_kinds (base := base) (P := l.prog) (w := w) E c_is_row F_is_kinds
  have c_is_kinds : CalD l.prog w K mg base 2 "is_kinds" ["value"] sp_is_kinds := ⟨f4, _, o_is_kinds, F_is_kinds.binds (ps := ["value"]) fun _ _ _ _ _ _ us hl => (match us, hl with | [_], _ => rfl), PySem.W.mg_of X G a4, k4⟩
  have F__law_pick := fun_mk (st := s__law_pick) l5 c5 k5
  have o__law_pick := ok__law_pick (base := base) (P := l.prog) (w := w) E c__law_draw F__law_pick
  have c__law_pick : CalD l.prog w K mg base 2 "_law_pick" ["_law_bag_here", "_law_items"] sp__law_pick := ⟨f5, _, o__law_pick, F__law_pick.binds (ps := ["_law_bag_here", "_law_items"]) fun _ _ _ _ _ _ us hl => (match us, hl with | [_, _], _ => rfl), PySem.W.mg_of X G a5, k5⟩
  have F__law_mixed := fun_mk (st := s__law_mixed) l6 c6 k6
  have o__law_mixed := ok__law_mixed (base := base) (P := l.prog) (w := w) E c__law_draw F__law_mixed
  have c__law_mixed : CalD l.prog w K mg base 2 "_law_mixed" ["_law_bag_here", "_law_items"] sp__law_mixed := ⟨f6, _, o__law_mixed, F__law_mixed.binds (ps := ["_law_bag_here", "_law_items"]) fun _ _ _ _ _ _ us hl => (match us, hl with | [_, _], _ => rfl), PySem.W.mg_of X G a6, k6⟩
  have F__law_row := fun_mk (st := s__law_row) l7 c7 k7
  have o__law_row := ok__law_row (base := base) (P := l.prog) (w := w) E c__law_draw F__law_row
  have c__law_row : CalD l.prog w K mg base 2 "_law_row" ["_law_bag_here", "_law_most"] sp__law_row := ⟨f7, _, o__law_row, F__law_row.binds (ps := ["_law_bag_here", "_law_most"]) fun _ _ _ _ _ _ us hl => (match us, hl with | [_, _], _ => rfl), PySem.W.mg_of X G a7, k7⟩
  have F_check_row := fun_mk (st := s_check_row) l8 c8 k8
  have o_check_row := ok_check_row (base := base) (P := l.prog) (w := w) E c_is_row x_BadRow F_check_row
  have c_check_row : CalD l.prog w K mg base 3 "check_row" ["row"] sp_check_row := ⟨f8, _, o_check_row, F_check_row.binds (ps := ["row"]) fun _ _ _ _ _ _ us hl => (match us, hl with | [_], _ => rfl), PySem.W.mg_of X G a8, k8⟩
  have F_check_kinds := fun_mk (st := s_check_kinds) l9 c9 k9
  have o_check_kinds := ok_check_kinds (base := base) (P := l.prog) (w := w) E c_is_kinds x_BadKinds F_check_kinds
  have c_check_kinds : CalD l.prog w K mg base 3 "check_kinds" ["kinds"] sp_check_kinds := ⟨f9, _, o_check_kinds, F_check_kinds.binds (ps := ["kinds"]) fun _ _ _ _ _ _ us hl => (match us, hl with | [_], _ => rfl), PySem.W.mg_of X G a9, k9⟩
  have F__law_kinds := fun_mk (st := s__law_kinds) l10 c10 k10
  have o__law_kinds := ok__law_kinds (base := base) (P := l.prog) (w := w) E c__law_draw c__law_mixed F__law_kinds
  have c__law_kinds : CalD l.prog w K mg base 3 "_law_kinds" ["_law_bag_here"] sp__law_kinds := ⟨f10, _, o__law_kinds, F__law_kinds.binds (ps := ["_law_bag_here"]) fun _ _ _ _ _ _ us hl => (match us, hl with | [_], _ => rfl), PySem.W.mg_of X G a10, k10⟩
  have F__law_wrong_row := fun_mk (st := s__law_wrong_row) l11 c11 k11
  have o__law_wrong_row := ok__law_wrong_row (base := base) (P := l.prog) (w := w) E c__law_draw c__law_row c__law_pick F__law_wrong_row
  have c__law_wrong_row : CalD l.prog w K mg base 3 "_law_wrong_row" ["_law_bag_here"] sp__law_wrong_row := ⟨f11, _, o__law_wrong_row, F__law_wrong_row.binds (ps := ["_law_bag_here"]) fun _ _ _ _ _ _ us hl => (match us, hl with | [_], _ => rfl), PySem.W.mg_of X G a11, k11⟩
  have F__law_made_by_hand := fun_mk (st := s__law_made_by_hand) l12 c12 k12
  have o__law_made_by_hand := ok__law_made_by_hand (base := base) (P := l.prog) (w := w) E c__law_pick c__law_classes x_BadMost x_BadLimits x_BadKinds x_BadClosed x_BadReading x_BadPrices x_BadNeed x_BadName x_BadUnit x_BadText x_BadStops x_BadRow x_NoStand x_NoNews x_BadWays x_BadUnits x0_TooMany x0_NothingToUndo x0_RestError F__law_made_by_hand
  have c__law_made_by_hand : CalD l.prog w K mg base 3 "_law_made_by_hand" ["_law_bag_here"] sp__law_made_by_hand := ⟨f12, _, o__law_made_by_hand, F__law_made_by_hand.binds (ps := ["_law_bag_here"]) fun _ _ _ _ _ _ us hl => (match us, hl with | [_], _ => rfl), PySem.W.mg_of X G a12, k12⟩
  have F_stretches := fun_mk (st := s_stretches) l13 c13 k13
  have o_stretches := ok_stretches (base := base) (P := l.prog) (w := w) E c_check_row F_stretches
  have c_stretches : CalD l.prog w K mg base 4 "stretches" ["row"] sp_stretches := ⟨f13, _, o_stretches, F_stretches.binds (ps := ["row"]) fun _ _ _ _ _ _ us hl => (match us, hl with | [_], _ => rfl), PySem.W.mg_of X G a13, k13⟩
  have F_places_of := fun_mk (st := s_places_of) l14 c14 k14
  have o_places_of := ok_places_of (base := base) (P := l.prog) (w := w) E c_check_row c_check_kinds F_places_of
  have c_places_of : CalD l.prog w K mg base 4 "places_of" ["row", "kinds"] sp_places_of := ⟨f14, _, o_places_of, F_places_of.binds (ps := ["row", "kinds"]) fun _ _ _ _ _ _ us hl => (match us, hl with | [_, _], _ => rfl), PySem.W.mg_of X G a14, k14⟩
  have F_longest_of := fun_mk (st := s_longest_of) l15 c15 k15
  have o_longest_of := ok_longest_of (base := base) (P := l.prog) (w := w) E c_check_row c_check_kinds F_longest_of
  have c_longest_of : CalD l.prog w K mg base 4 "longest_of" ["row", "kinds"] sp_longest_of := ⟨f15, _, o_longest_of, F_longest_of.binds (ps := ["row", "kinds"]) fun _ _ _ _ _ _ us hl => (match us, hl with | [_, _], _ => rfl), PySem.W.mg_of X G a15, k15⟩
  have F__law_some_kinds := fun_mk (st := s__law_some_kinds) l16 c16 k16
  have o__law_some_kinds := ok__law_some_kinds (base := base) (P := l.prog) (w := w) E c__law_draw c__law_kinds F__law_some_kinds
  have c__law_some_kinds : CalD l.prog w K mg base 4 "_law_some_kinds" ["_law_bag_here"] sp__law_some_kinds := ⟨f16, _, o__law_some_kinds, F__law_some_kinds.binds (ps := ["_law_bag_here"]) fun _ _ _ _ _ _ us hl => (match us, hl with | [_], _ => rfl), PySem.W.mg_of X G a16, k16⟩
  have F_as_text := fun_mk (st := s_as_text) l17 c17 k17
  have o_as_text := ok_as_text (base := base) (P := l.prog) (w := w) E c_stretches F_as_text
  have c_as_text : CalD l.prog w K mg base 5 "as_text" ["row"] sp_as_text := ⟨f17, _, o_as_text, F_as_text.binds (ps := ["row"]) fun _ _ _ _ _ _ us hl => (match us, hl with | [_], _ => rfl), PySem.W.mg_of X G a17, k17⟩
  have F_units_of := fun_mk (st := s_units_of) l18 c18 k18
  have o_units_of := ok_units_of (base := base) (P := l.prog) (w := w) E c_places_of F_units_of
  have c_units_of : CalD l.prog w K mg base 5 "units_of" ["row", "kinds"] sp_units_of := ⟨f18, _, o_units_of, F_units_of.binds (ps := ["row", "kinds"]) fun _ _ _ _ _ _ us hl => (match us, hl with | [_, _], _ => rfl), PySem.W.mg_of X G a18, k18⟩
  have F__law_wrong_kinds := fun_mk (st := s__law_wrong_kinds) l19 c19 k19
  have o__law_wrong_kinds := ok__law_wrong_kinds (base := base) (P := l.prog) (w := w) E c__law_draw c__law_some_kinds c__law_pick F__law_wrong_kinds
  have c__law_wrong_kinds : CalD l.prog w K mg base 5 "_law_wrong_kinds" ["_law_bag_here"] sp__law_wrong_kinds := ⟨f19, _, o__law_wrong_kinds, F__law_wrong_kinds.binds (ps := ["_law_bag_here"]) fun _ _ _ _ _ _ us hl => (match us, hl with | [_], _ => rfl), PySem.W.mg_of X G a19, k19⟩
  have ll_0 := ok_l0 (base := base) (P := l.prog) (w := w) E c_units_of
  have ll_1 := ok_l1 (base := base) (P := l.prog) (w := w) E c_longest_of
  have ll_2 := ok_l2 (base := base) (P := l.prog) (w := w) E c_places_of
  have ll_3 := ok_l3 (base := base) (P := l.prog) (w := w) E c_as_text
  have ll_4 := ok_l4 (base := base) (P := l.prog) (w := w) E c_stretches
  have LM : ∀ i, i < 5 → LamD l.prog w K mg base 6 (lamS i) (lps i) (frOf (lamS i)) (lsp i) := fun i hi => match i, hi with
    | 0, _ => ll_0.mono (by decide)
    | 1, _ => ll_1.mono (by decide)
    | 2, _ => ll_2.mono (by decide)
    | 3, _ => ll_3.mono (by decide)
    | 4, _ => ll_4.mono (by decide)
    | n + 5, h => absurd h (by omega)
  have F__law_refusal := fun_mk (st := s__law_refusal) l20 c20 k20
  have o__law_refusal := ok__law_refusal (lP := (fun i => ([P21, P21, P21, P21, P21] : List Addr).getD i 0)) (base := base) (P := l.prog) (w := w) E LM F__law_refusal
  have c__law_refusal : CalG l.prog w K mg base 8 "_law_refusal" ["_law_deed", "_law_todo"] (sp__law_refusal (LamE.mk lamS (fun i => ([P21, P21, P21, P21, P21] : List Addr).getD i 0))) := ⟨f20, _, o__law_refusal, F__law_refusal.binds (ps := ["_law_deed", "_law_todo"]) fun _ _ _ _ _ _ us hl => (match us, hl with | [_, _], _ => rfl), PySem.W.mg_of X G a20, k20⟩
  have F_law := funC_mk (st := s_law) l21 c21 k21
  have TB_law : ∀ i ∈ ([0, 1, 2, 3, 4] : List Nat), TabB base mg lc21 ((fun i => ([P21, P21, P21, P21, P21] : List Addr).getD i 0) i) := by
    intro i hi
    simp only [List.mem_cons, List.not_mem_nil, or_false] at hi
    rcases hi with rfl | rfl | rfl | rfl | rfl <;> exact TB (lc21, P21) (by simp)
  exact ok_law (lP := (fun i => ([P21, P21, P21, P21, P21] : List Addr).getD i 0)) E c__law_bag c__law_wrong_row c__law_wrong_kinds c__law_some_kinds c__law_row c_is_row c_is_kinds c__law_draw c__law_refusal c__law_made_by_hand TB_law F_law
end DL
open PySem PySem.W PyProof.Rows
set_option maxHeartbeats 0 in
theorem PySem.Challenge.cw_restbooks_k14_what_is_no_row_and_no_kind_holds : PySem.Challenge.rw_restbooks_k14_what_is_no_row_and_no_kind.Holds := by
  w_on; o_law; k_head; (case hw => w_witness2)
  k_fill
  refine DL.walk_ofG (l := PySem.Challenge.rw_restbooks_k14_what_is_no_row_and_no_kind) (n := 63) (k := 9) (x := "_law_script") (CX := fun w => L2.CX PySem.Challenge.rw_restbooks_k14_what_is_no_row_and_no_kind.prog w) ["law"] rfl (by decide) rfl ⟨rfl, by decide, by decide⟩ (by kernel_rfl) (fun w h Y => PySem.W.km_in_of Y) ?F (fun _ _ _ _ _ ⟨_, _, _, _, _, _, _, _, _, _, _, _, h⟩ => h)
  case F =>
    intro w mg fa h KX G hmg TO
    refine' DL.all_mk (l := PySem.Challenge.rw_restbooks_k14_what_is_no_row_and_no_kind) KX G hmg ?a0 ?l0 ?c0 ?k0 ?a1 ?l1 ?c1 ?k1 ?a2 ?l2 ?c2 ?k2 ?a3 ?l3 ?c3 ?k3 ?a4 ?l4 ?c4 ?k4 ?a5 ?l5 ?c5 ?k5 ?a6 ?l6 ?c6 ?k6 ?a7 ?l7 ?c7 ?k7 ?a8 ?l8 ?c8 ?k8 ?a9 ?l9 ?c9 ?k9 ?a10 ?l10 ?c10 ?k10 ?a11 ?l11 ?c11 ?k11 ?a12 ?l12 ?c12 ?k12 ?a13 ?l13 ?c13 ?k13 ?a14 ?l14 ?c14 ?k14 ?a15 ?l15 ?c15 ?k15 ?a16 ?l16 ?c16 ?k16 ?a17 ?l17 ?c17 ?k17 ?a18 ?l18 ?c18 ?k18 ?a19 ?l19 ?c19 ?k19 ?a20 ?l20 ?c20 ?k20 ?a21 ?l21 ?c21 ?k21 ?tl21 ?th21 ?z0 ?z1 ?z2 ?z3 ?z4 ?z5 ?z6 ?z7 ?z8 ?z9 ?z10 ?y0 ?y1 ?xn_RestError ?xl_RestError ?xs_RestError ?xg_RestError ?xh_RestError ?xc_RestError ?xv_RestError ?xk_RestError ?xq_RestError ?br ?bg ?bi ?xn_BadRow ?xl_BadRow ?xs_BadRow ?xg_BadRow ?xh_BadRow ?xc_BadRow ?xv_BadRow ?xk_BadRow ?xi_BadRow ?xt_BadRow ?gl_BadRow ?gc_BadRow ?gk_BadRow ?xn_BadText ?xl_BadText ?xs_BadText ?xg_BadText ?xh_BadText ?xc_BadText ?xv_BadText ?xk_BadText ?xi_BadText ?xt_BadText ?gl_BadText ?gc_BadText ?gk_BadText ?xn_BadKinds ?xl_BadKinds ?xs_BadKinds ?xg_BadKinds ?xh_BadKinds ?xc_BadKinds ?xv_BadKinds ?xk_BadKinds ?xi_BadKinds ?xt_BadKinds ?gl_BadKinds ?gc_BadKinds ?gk_BadKinds ?xn_BadMost ?xl_BadMost ?xs_BadMost ?xg_BadMost ?xh_BadMost ?xc_BadMost ?xv_BadMost ?xk_BadMost ?xi_BadMost ?xt_BadMost ?gl_BadMost ?gc_BadMost ?gk_BadMost ?xn_BadWays ?xl_BadWays ?xs_BadWays ?xg_BadWays ?xh_BadWays ?xc_BadWays ?xv_BadWays ?xk_BadWays ?xi_BadWays ?xt_BadWays ?gl_BadWays ?gc_BadWays ?gk_BadWays ?xn_BadLimits ?xl_BadLimits ?xs_BadLimits ?xg_BadLimits ?xh_BadLimits ?xc_BadLimits ?xv_BadLimits ?xk_BadLimits ?xi_BadLimits ?xt_BadLimits ?gl_BadLimits ?gc_BadLimits ?gk_BadLimits ?xn_BadUnit ?xl_BadUnit ?xs_BadUnit ?xg_BadUnit ?xh_BadUnit ?xc_BadUnit ?xv_BadUnit ?xk_BadUnit ?xi_BadUnit ?xt_BadUnit ?gl_BadUnit ?gc_BadUnit ?gk_BadUnit ?xn_NoStand ?xl_NoStand ?xs_NoStand ?xg_NoStand ?xh_NoStand ?xc_NoStand ?xv_NoStand ?xk_NoStand ?xi_NoStand ?xt_NoStand ?gl_NoStand ?gc_NoStand ?gk_NoStand ?xn_BadUnits ?xl_BadUnits ?xs_BadUnits ?xg_BadUnits ?xh_BadUnits ?xc_BadUnits ?xv_BadUnits ?xk_BadUnits ?xi_BadUnits ?xt_BadUnits ?gl_BadUnits ?gc_BadUnits ?gk_BadUnits ?xn_BadReading ?xl_BadReading ?xs_BadReading ?xg_BadReading ?xh_BadReading ?xc_BadReading ?xv_BadReading ?xk_BadReading ?xi_BadReading ?xt_BadReading ?gl_BadReading ?gc_BadReading ?gk_BadReading ?xn_BadPrices ?xl_BadPrices ?xs_BadPrices ?xg_BadPrices ?xh_BadPrices ?xc_BadPrices ?xv_BadPrices ?xk_BadPrices ?xi_BadPrices ?xt_BadPrices ?gl_BadPrices ?gc_BadPrices ?gk_BadPrices ?xn_BadNeed ?xl_BadNeed ?xs_BadNeed ?xg_BadNeed ?xh_BadNeed ?xc_BadNeed ?xv_BadNeed ?xk_BadNeed ?xi_BadNeed ?xt_BadNeed ?gl_BadNeed ?gc_BadNeed ?gk_BadNeed ?xn_BadClosed ?xl_BadClosed ?xs_BadClosed ?xg_BadClosed ?xh_BadClosed ?xc_BadClosed ?xv_BadClosed ?xk_BadClosed ?xi_BadClosed ?xt_BadClosed ?gl_BadClosed ?gc_BadClosed ?gk_BadClosed ?xn_BadStops ?xl_BadStops ?xs_BadStops ?xg_BadStops ?xh_BadStops ?xc_BadStops ?xv_BadStops ?xk_BadStops ?xi_BadStops ?xt_BadStops ?gl_BadStops ?gc_BadStops ?gk_BadStops ?xn_BadName ?xl_BadName ?xs_BadName ?xg_BadName ?xh_BadName ?xc_BadName ?xv_BadName ?xk_BadName ?xi_BadName ?xt_BadName ?gl_BadName ?gc_BadName ?gk_BadName ?xn_NoNews ?xl_NoNews ?xs_NoNews ?xg_NoNews ?xh_NoNews ?xc_NoNews ?xv_NoNews ?xk_NoNews ?xi_NoNews ?xt_NoNews ?gl_NoNews ?gc_NoNews ?gk_NoNews ?xn_TooMany ?xl_TooMany ?xs_TooMany ?xg_TooMany ?xh_TooMany ?xc_TooMany ?xv_TooMany ?xk_TooMany ?xq_TooMany ?xn_NothingToUndo ?xl_NothingToUndo ?xs_NothingToUndo ?xg_NothingToUndo ?xh_NothingToUndo ?xc_NothingToUndo ?xv_NothingToUndo ?xk_NothingToUndo ?xq_NothingToUndo ?noT ?tdis ?TO
    case a0 => k_is
    case l0 => k_is
    case c0 => k_is
    case k0 => k_is
    case a1 => k_is
    case l1 => k_is
    case c1 => k_is
    case k1 => k_is
    case a2 => k_is
    case l2 => k_is
    case c2 => k_is
    case k2 => k_is
    case a3 => k_is
    case l3 => k_is
    case c3 => k_is
    case k3 => k_is
    case a4 => k_is
    case l4 => k_is
    case c4 => k_is
    case k4 => k_is
    case a5 => k_is
    case l5 => k_is
    case c5 => k_is
    case k5 => k_is
    case a6 => k_is
    case l6 => k_is
    case c6 => k_is
    case k6 => k_is
    case a7 => k_is
    case l7 => k_is
    case c7 => k_is
    case k7 => k_is
    case a8 => k_is
    case l8 => k_is
    case c8 => k_is
    case k8 => k_is
    case a9 => k_is
    case l9 => k_is
    case c9 => k_is
    case k9 => k_is
    case a10 => k_is
    case l10 => k_is
    case c10 => k_is
    case k10 => k_is
    case a11 => k_is
    case l11 => k_is
    case c11 => k_is
    case k11 => k_is
    case a12 => k_is
    case l12 => k_is
    case c12 => k_is
    case k12 => k_is
    case a13 => k_is
    case l13 => k_is
    case c13 => k_is
    case k13 => k_is
    case a14 => k_is
    case l14 => k_is
    case c14 => k_is
    case k14 => k_is
    case a15 => k_is
    case l15 => k_is
    case c15 => k_is
    case k15 => k_is
    case a16 => k_is
    case l16 => k_is
    case c16 => k_is
    case k16 => k_is
    case a17 => k_is
    case l17 => k_is
    case c17 => k_is
    case k17 => k_is
    case a18 => k_is
    case l18 => k_is
    case c18 => k_is
    case k18 => k_is
    case a19 => k_is
    case l19 => k_is
    case c19 => k_is
    case k19 => k_is
    case a20 => k_is
    case l20 => k_is
    case c20 => k_is
    case k20 => k_is
    case a21 => k_is
    case l21 => k_is
    case c21 => k_is
    case k21 => k_is
    case tl21 => k_is
    case th21 => rfl
    case z0 => k_is
    case z1 => k_is
    case z2 => k_is
    case z3 => k_is
    case z4 => k_is
    case z5 => k_is
    case z6 => k_is
    case z7 => k_is
    case z8 => k_is
    case z9 => k_is
    case z10 => k_is
    case y0 => k_is
    case y1 => k_is
    case xn_RestError => k_is
    case xl_RestError => k_is
    case xs_RestError => k_is
    case xg_RestError => k_is
    case xh_RestError => k_is
    case xc_RestError => k_is
    case xv_RestError => k_is
    case xk_RestError => k_is
    case xq_RestError => first | decide +kernel | kernel_rfl
    case br => k_is
    case bg => k_is
    case bi => k_is
    case xn_BadRow => k_is
    case xl_BadRow => k_is
    case xs_BadRow => k_is
    case xg_BadRow => k_is
    case xh_BadRow => k_is
    case xc_BadRow => k_is
    case xv_BadRow => k_is
    case xk_BadRow => k_is
    case xi_BadRow => k_is
    case xt_BadRow => k_is
    case gl_BadRow => k_is
    case gc_BadRow => k_is
    case gk_BadRow => k_is
    case xn_BadText => k_is
    case xl_BadText => k_is
    case xs_BadText => k_is
    case xg_BadText => k_is
    case xh_BadText => k_is
    case xc_BadText => k_is
    case xv_BadText => k_is
    case xk_BadText => k_is
    case xi_BadText => k_is
    case xt_BadText => k_is
    case gl_BadText => k_is
    case gc_BadText => k_is
    case gk_BadText => k_is
    case xn_BadKinds => k_is
    case xl_BadKinds => k_is
    case xs_BadKinds => k_is
    case xg_BadKinds => k_is
    case xh_BadKinds => k_is
    case xc_BadKinds => k_is
    case xv_BadKinds => k_is
    case xk_BadKinds => k_is
    case xi_BadKinds => k_is
    case xt_BadKinds => k_is
    case gl_BadKinds => k_is
    case gc_BadKinds => k_is
    case gk_BadKinds => k_is
    case xn_BadMost => k_is
    case xl_BadMost => k_is
    case xs_BadMost => k_is
    case xg_BadMost => k_is
    case xh_BadMost => k_is
    case xc_BadMost => k_is
    case xv_BadMost => k_is
    case xk_BadMost => k_is
    case xi_BadMost => k_is
    case xt_BadMost => k_is
    case gl_BadMost => k_is
    case gc_BadMost => k_is
    case gk_BadMost => k_is
    case xn_BadWays => k_is
    case xl_BadWays => k_is
    case xs_BadWays => k_is
    case xg_BadWays => k_is
    case xh_BadWays => k_is
    case xc_BadWays => k_is
    case xv_BadWays => k_is
    case xk_BadWays => k_is
    case xi_BadWays => k_is
    case xt_BadWays => k_is
    case gl_BadWays => k_is
    case gc_BadWays => k_is
    case gk_BadWays => k_is
    case xn_BadLimits => k_is
    case xl_BadLimits => k_is
    case xs_BadLimits => k_is
    case xg_BadLimits => k_is
    case xh_BadLimits => k_is
    case xc_BadLimits => k_is
    case xv_BadLimits => k_is
    case xk_BadLimits => k_is
    case xi_BadLimits => k_is
    case xt_BadLimits => k_is
    case gl_BadLimits => k_is
    case gc_BadLimits => k_is
    case gk_BadLimits => k_is
    case xn_BadUnit => k_is
    case xl_BadUnit => k_is
    case xs_BadUnit => k_is
    case xg_BadUnit => k_is
    case xh_BadUnit => k_is
    case xc_BadUnit => k_is
    case xv_BadUnit => k_is
    case xk_BadUnit => k_is
    case xi_BadUnit => k_is
    case xt_BadUnit => k_is
    case gl_BadUnit => k_is
    case gc_BadUnit => k_is
    case gk_BadUnit => k_is
    case xn_NoStand => k_is
    case xl_NoStand => k_is
    case xs_NoStand => k_is
    case xg_NoStand => k_is
    case xh_NoStand => k_is
    case xc_NoStand => k_is
    case xv_NoStand => k_is
    case xk_NoStand => k_is
    case xi_NoStand => k_is
    case xt_NoStand => k_is
    case gl_NoStand => k_is
    case gc_NoStand => k_is
    case gk_NoStand => k_is
    case xn_BadUnits => k_is
    case xl_BadUnits => k_is
    case xs_BadUnits => k_is
    case xg_BadUnits => k_is
    case xh_BadUnits => k_is
    case xc_BadUnits => k_is
    case xv_BadUnits => k_is
    case xk_BadUnits => k_is
    case xi_BadUnits => k_is
    case xt_BadUnits => k_is
    case gl_BadUnits => k_is
    case gc_BadUnits => k_is
    case gk_BadUnits => k_is
    case xn_BadReading => k_is
    case xl_BadReading => k_is
    case xs_BadReading => k_is
    case xg_BadReading => k_is
    case xh_BadReading => k_is
    case xc_BadReading => k_is
    case xv_BadReading => k_is
    case xk_BadReading => k_is
    case xi_BadReading => k_is
    case xt_BadReading => k_is
    case gl_BadReading => k_is
    case gc_BadReading => k_is
    case gk_BadReading => k_is
    case xn_BadPrices => k_is
    case xl_BadPrices => k_is
    case xs_BadPrices => k_is
    case xg_BadPrices => k_is
    case xh_BadPrices => k_is
    case xc_BadPrices => k_is
    case xv_BadPrices => k_is
    case xk_BadPrices => k_is
    case xi_BadPrices => k_is
    case xt_BadPrices => k_is
    case gl_BadPrices => k_is
    case gc_BadPrices => k_is
    case gk_BadPrices => k_is
    case xn_BadNeed => k_is
    case xl_BadNeed => k_is
    case xs_BadNeed => k_is
    case xg_BadNeed => k_is
    case xh_BadNeed => k_is
    case xc_BadNeed => k_is
    case xv_BadNeed => k_is
    case xk_BadNeed => k_is
    case xi_BadNeed => k_is
    case xt_BadNeed => k_is
    case gl_BadNeed => k_is
    case gc_BadNeed => k_is
    case gk_BadNeed => k_is
    case xn_BadClosed => k_is
    case xl_BadClosed => k_is
    case xs_BadClosed => k_is
    case xg_BadClosed => k_is
    case xh_BadClosed => k_is
    case xc_BadClosed => k_is
    case xv_BadClosed => k_is
    case xk_BadClosed => k_is
    case xi_BadClosed => k_is
    case xt_BadClosed => k_is
    case gl_BadClosed => k_is
    case gc_BadClosed => k_is
    case gk_BadClosed => k_is
    case xn_BadStops => k_is
    case xl_BadStops => k_is
    case xs_BadStops => k_is
    case xg_BadStops => k_is
    case xh_BadStops => k_is
    case xc_BadStops => k_is
    case xv_BadStops => k_is
    case xk_BadStops => k_is
    case xi_BadStops => k_is
    case xt_BadStops => k_is
    case gl_BadStops => k_is
    case gc_BadStops => k_is
    case gk_BadStops => k_is
    case xn_BadName => k_is
    case xl_BadName => k_is
    case xs_BadName => k_is
    case xg_BadName => k_is
    case xh_BadName => k_is
    case xc_BadName => k_is
    case xv_BadName => k_is
    case xk_BadName => k_is
    case xi_BadName => k_is
    case xt_BadName => k_is
    case gl_BadName => k_is
    case gc_BadName => k_is
    case gk_BadName => k_is
    case xn_NoNews => k_is
    case xl_NoNews => k_is
    case xs_NoNews => k_is
    case xg_NoNews => k_is
    case xh_NoNews => k_is
    case xc_NoNews => k_is
    case xv_NoNews => k_is
    case xk_NoNews => k_is
    case xi_NoNews => k_is
    case xt_NoNews => k_is
    case gl_NoNews => k_is
    case gc_NoNews => k_is
    case gk_NoNews => k_is
    case xn_TooMany => k_is
    case xl_TooMany => k_is
    case xs_TooMany => k_is
    case xg_TooMany => k_is
    case xh_TooMany => k_is
    case xc_TooMany => k_is
    case xv_TooMany => k_is
    case xk_TooMany => k_is
    case xq_TooMany => first | decide +kernel | kernel_rfl
    case xn_NothingToUndo => k_is
    case xl_NothingToUndo => k_is
    case xs_NothingToUndo => k_is
    case xg_NothingToUndo => k_is
    case xh_NothingToUndo => k_is
    case xc_NothingToUndo => k_is
    case xv_NothingToUndo => k_is
    case xk_NothingToUndo => k_is
    case xq_NothingToUndo => first | decide +kernel | kernel_rfl
    case noT => kernel_rfl
    case tdis => decide
    case TO => exact TO
