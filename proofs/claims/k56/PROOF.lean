import PyProof.Rows.All
import Wide.All
import OpenK.AllK
import Wide.FinOn
import HandS.ForMost
import HandS.Exc
import HandS.TryOnly
import HandS.WordsExc
import HandS.Lambda
import HandS.EndTab
import HandS.ExcField
import KE.KeyNested
import HandS.TupAny
import HandS.Wide
import HandS.IsInst
import HandS.Flow
import HandS.Small
import HandS.TupMul
import KE.KMinKey
import HandS.SortKw
import HandS.Deep
import KE.GoesEnum
import HandS.RaiseMore
import HandS.Dict
import HandS.More
import HandS.Text
import HandS.Strs
import HandS.Style
import HandS.Conv
import HandS.ExcIs
import HandS.Defaults
import HandS.FStr
import HandS.OwnEq
import KE.KCallOwn
import KE.KIsAll
import HandS.TupLe
import HandS.ExcInit
import KE.KExcInit
import KE.KExcLine
import KE.BitLaws
import PySem.Challenge.RW_tickrow_k56_straight_or_not
set_option Elab.async false
set_option linter.all false
set_option maxRecDepth 100000
set_option maxHeartbeats 4000000
/-! D: values as trees. A tuple, a list or an object that nobody changes any more is a tree; what may still be changed stands in M by its address. -/
namespace DL
open PySem PySem.Spec PyProof.Rows L2
open PySem.W (Frag)

inductive D where
  | non
  | bl (b : Bool)
  | int (i : Int)
  | str (x : Str)
  | byt (b : Array UInt8)
  | tup (ds : List D)
  | lst (ds : List D)
  | lsf (ds : List D)
  | obj (n : Str) (fs : List (Str × D))
  | ref (a : Addr)
  | ty (n : String)
  /-- an exception that was caught -/
  | exc (n : Str) (fs : List (Str × D))
  /-- the same while its except suite runs: at a, its own dict at dd -/
  | exp (a : Addr) (dd : Option Addr) (n : Str) (fs : List (Str × D))

/-- what may be changed -/
inductive MO where
  | lst (ds : List D)
  | dK (kvs : List (Key × D))
  | ins (n : Str) (fs : List (Str × D))
  /-- a dict whose keys are tuples of any depth -/
  | dN (kvs : List (NestedKey × D))
  /-- a table of code objects of the name q: nobody speaks of it -/
  | tab (q : Str)
  /-- it stands there, but nobody may speak of it (a comprehension's list while it grows) -/
  | hid
abbrev HM := Addr → Option MO
def mup (M : HM) (a : Addr) (o : MO) : HM := fun b => if b = a then some o else M b
def mdel (M : HM) (a : Addr) : HM := fun b => if b = a then none else M b
theorem mup_same {M : HM} {a : Addr} {o : MO} : mup M a o a = some o := by unfold mup; rw [if_pos rfl]
theorem mup_ne {M : HM} {a b : Addr} {o : MO} (h : b ≠ a) : mup M a o b = M b := by unfold mup; rw [if_neg h]
theorem mup_mup {M : HM} {a : Addr} {o u : MO} : mup (mup M a o) a u = mup M a u := by
  funext b; unfold mup; split <;> rfl

/-- what nobody may speak of -/
def shy : Option MO → Bool
  | some .hid => true
  | some (.tab _) => true
  | _ => false
theorem shy_hid {o : Option MO} (h : shy o = false) : o ≠ some .hid := fun z => by rw [z] at h; cases h
theorem shy_tab {o : Option MO} {q : Str} (h : shy o = false) : o ≠ some (.tab q) := fun z => by rw [z] at h; cases h
/-- what a def's text may speak of -/
def strip (M : HM) : HM := fun a => if shy (M a) = true then none else M a
theorem strip_some {M : HM} {a : Addr} {o : MO} (h : strip M a = some o) : M a = some o := by
  unfold strip at h
  split at h
  · cases h
  · exact h
theorem strip_shy {M : HM} {a : Addr} {o : MO} (h : strip M a = some o) : shy (M a) = false := by
  unfold strip at h
  split at h
  · cases h
  · rename_i e; simpa using e
theorem strip_of {M : HM} {a : Addr} {o : MO} (h : M a = some o) (n : shy (some o) = false) : strip M a = some o := by
  unfold strip
  rw [h, if_neg (by rw [n]; decide)]
theorem strip_none {M : HM} {a : Addr} (h : M a = none) : strip M a = none := by
  unfold strip; rw [h]; rfl
theorem strip_y {M : HM} {a : Addr} (h : shy (M a) = true) : strip M a = none := by
  unfold strip; rw [if_pos h]
theorem strip_n {M : HM} {a : Addr} (h : shy (M a) = false) : strip M a = M a := by
  unfold strip; rw [if_neg (by rw [h]; decide)]
theorem strip_ne {M : HM} {a : Addr} (h : strip M a ≠ none) : M a ≠ none := fun z => h (strip_none z)
theorem strip_mup {M : HM} {a : Addr} {o : MO} (n : shy (some o) = false) : strip (mup M a o) = mup (strip M) a o := by
  funext b
  by_cases h : b = a
  · subst h; rw [mup_same]; exact strip_of mup_same n
  · rw [mup_ne h]; unfold strip; rw [mup_ne h]
def cT (K : Frag) (a : Addr) (vs : List V) : Prop := ∃ (o : Obj) (its : Array Value) (n : Nat), K.lookup a = some o ∧ o.cls = .type "tuple" ∧ o.data = .seq its n ∧ its.size ≤ sizeLine ∧ Vals vs its.toList
def cL (K : Frag) (a : Addr) (vs : List V) : Prop := ∃ (o : Obj) (its : Array Value) (n : Nat), K.lookup a = some o ∧ o.cls = .type "list" ∧ o.dict = none ∧ o.data = .seq its n ∧ its.size ≤ sizeLine ∧ Vals vs its.toList

/-- an exception object of the class cls, its own dict dd, at a -/
def ExV (cls : Value) (dd : Option Addr) (a : Addr) : HO := .ext fun h => ∃ (oe : Obj) (vs : Array Value), h.get? a = some oe ∧ Zc cls dd oe ∧ oe.data = .fields vs
mutual
inductive RV (K : Frag) (mg : Str → Option Value) (M : HM) (H : Hp) : D → V → Prop where
  | non : RV K mg M H .non .non
  | bl {b : Bool} : RV K mg M H (.bl b) (.bl b)
  | int {i : Int} : RV K mg M H (.int i) (.int i)
  | str {x : Str} : RV K mg M H (.str x) (.str x)
  | byt {b : Array UInt8} : RV K mg M H (.byt b) (.byt b)
  | ref {a : Addr} : RV K mg M H (.ref a) (.ref a)
  | ty {n : String} : RV K mg M H (.ty n) (.ty n)
  | tup {ds : List D} {a : Addr} {vs : List V} (h : (M a = none ∧ Rd H a (.tup vs)) ∨ cT K a vs) (r : RVs K mg M H ds vs) : RV K mg M H (.tup ds) (.ref a)
  | lst {ds : List D} {a : Addr} {vs : List V} (hm : M a = none) (h : H a = some (.lst vs)) (r : RVs K mg M H ds vs) : RV K mg M H (.lst ds) (.ref a)
  | lsf {ds : List D} {a : Addr} {vs : List V} (h : (M a = none ∧ Rd H a (.lst vs)) ∨ cL K a vs) (r : RVs K mg M H ds vs) : RV K mg M H (.lsf ds) (.ref a)
  | obj {n : Str} {fs : List (Str × D)} {a C dx : Addr} {vs : List (Str × V)} (hc : mg n = some (.ref C)) (hm : M a = none) (h : H a = some (.ins C dx vs)) (r : RVf K mg M H fs vs) : RV K mg M H (.obj n fs) (.ref a)
  | exc0 {n : Str} {a C : Addr} (hc : mg n = some (.ref C)) (hm : M a = none) (h : H a = some (ExV (.ref C) none a)) : RV K mg M H (.exc n []) (.ref a)
  | exc1 {n : Str} {a C x : Addr} {fs : List (Str × D)} {vs : List (Str × V)} (hc : mg n = some (.ref C)) (hm : M a = none) (h : H a = some (ExV (.ref C) (some x) a)) (hn : M x = none) (hx : H x = some (.xd vs)) (r : RVf K mg M H fs vs) : RV K mg M H (.exc n fs) (.ref a)
  | exp0 {n : Str} {a : Addr} : RV K mg M H (.exp a none n []) (.ref a)
  | exp1 {n : Str} {a x : Addr} {fs : List (Str × D)} {vs : List (Str × V)} (hn : M x = none) (hx : H x = some (.xd vs)) (r : RVf K mg M H fs vs) : RV K mg M H (.exp a (some x) n fs) (.ref a)
inductive RVs (K : Frag) (mg : Str → Option Value) (M : HM) (H : Hp) : List D → List V → Prop where
  | nil : RVs K mg M H [] []
  | cons {d : D} {v : V} {ds : List D} {vs : List V} (r : RV K mg M H d v) (rs : RVs K mg M H ds vs) : RVs K mg M H (d :: ds) (v :: vs)
inductive RVf (K : Frag) (mg : Str → Option Value) (M : HM) (H : Hp) : List (Str × D) → List (Str × V) → Prop where
  | nil : RVf K mg M H [] []
  | cons {x : Str} {d : D} {v : V} {ds : List (Str × D)} {vs : List (Str × V)} (r : RV K mg M H d v) (rs : RVf K mg M H ds vs) : RVf K mg M H ((x, d) :: ds) ((x, v) :: vs)
end
/-- what isn't to be changed stays; what is to be changed from now on is new -/
structure ExtR (M : HM) (H : Hp) (M' : HM) (H' : Hp) : Prop where
  keep : ∀ b o, H b = some o → M b = none → H' b = some o
  dom : ∀ b, M' b ≠ none → M b ≠ none ∨ H b = none
/-- what is hidden stays, and stays hidden -/
structure ExtW (M : HM) (H : Hp) (M' : HM) (H' : Hp) : Prop extends ExtR M H M' H' where
  hk : ∀ b o, H b = some o → M b = some .hid → H' b = some o
  hm : ∀ b, M b = some .hid → M' b = some .hid
  tb : ∀ b q, M b = some (.tab q) → M' b = some (.tab q)
/-- nothing else is hidden -/
structure Ext (M : HM) (H : Hp) (M' : HM) (H' : Hp) : Prop extends ExtW M H M' H' where
  hid : ∀ b, M' b = some .hid ↔ M b = some .hid
theorem ExtW.refl {M : HM} {H : Hp} : ExtW M H M H := ⟨⟨fun _ _ h _ => h, fun _ h => .inl h⟩, fun _ _ h _ => h, fun _ h => h, fun _ _ h => h⟩
theorem Ext.refl {M : HM} {H : Hp} : Ext M H M H := ⟨.refl, fun _ => Iff.rfl⟩
theorem ExtW.trans {M M1 M2 : HM} {H H1 H2 : Hp} (a : ExtW M H M1 H1) (b : ExtW M1 H1 M2 H2) : ExtW M H M2 H2 where
  keep := fun c o e n => by
    refine b.keep c o (a.keep c o e n) ?_
    cases q : M1 c with
    | none => rfl
    | some z =>
      rcases a.dom c (by rw [q]; simp) with h | h
      · exact absurd n h
      · rw [h] at e; cases e
  dom := fun c n => by
    rcases b.dom c n with h | h
    · exact a.dom c h
    · cases q : M c with
      | some z => exact .inl (by simp)
      | none =>
        cases r : H c with
        | none => exact .inr rfl
        | some o => rw [a.keep c o r q] at h; cases h
  hk := fun c o e n => b.hk c o (a.hk c o e n) (a.hm c n)
  hm := fun c n => b.hm c (a.hm c n)
  tb := fun c q n => b.tb c q (a.tb c q n)
theorem Ext.trans {M M1 M2 : HM} {H H1 H2 : Hp} (a : Ext M H M1 H1) (b : Ext M1 H1 M2 H2) : Ext M H M2 H2 := ⟨a.toExtW.trans b.toExtW, fun c => (b.hid c).trans (a.hid c)⟩
section
variable {K : Frag} {mg : Str → Option Value} {M M' : HM} {H H' : Hp}
theorem ExtR.nm (e : ExtR M H M' H') {a : Addr} {o : HO} (h : H a = some o) (n : M a = none) : M' a = none := by
  cases q : M' a with
  | none => rfl
  | some z =>
    rcases e.dom a (by rw [q]; simp) with r | r
    · exact absurd n r
    · rw [r] at h; cases h
theorem ExtR.rd (e : ExtR M H M' H') {a : Addr} {u : HO} (h : M a = none ∧ Rd H a u) : M' a = none ∧ Rd H' a u := by
  obtain ⟨n, h | ⟨o, h⟩⟩ := h
  · exact ⟨e.nm h n, .inl (e.keep _ _ h n)⟩
  · exact ⟨e.nm h n, .inr ⟨o, e.keep _ _ h n⟩⟩
mutual
theorem RV.extw (e : ExtR M H M' H') : ∀ {d : D} {v : V}, RV K mg M H d v → RV K mg M' H' d v
  | _, _, .non => .non
  | _, _, .bl => .bl
  | _, _, .int => .int
  | _, _, .str => .str
  | _, _, .byt => .byt
  | _, _, .ref => .ref
  | _, _, .ty => .ty
  | _, _, .tup h r => .tup (h.imp e.rd id) (RVs.extw e r)
  | _, _, .lst hm h r => .lst (e.nm h hm) (e.keep _ _ h hm) (RVs.extw e r)
  | _, _, .lsf h r => .lsf (h.imp e.rd id) (RVs.extw e r)
  | _, _, .obj hc hm h r => .obj hc (e.nm h hm) (e.keep _ _ h hm) (RVf.extw e r)
  | _, _, .exc0 hc hm h => .exc0 hc (e.nm h hm) (e.keep _ _ h hm)
  | _, _, .exc1 hc hm h hn hx r => .exc1 hc (e.nm h hm) (e.keep _ _ h hm) (e.nm hx hn) (e.keep _ _ hx hn) (RVf.extw e r)
  | _, _, .exp0 => .exp0
  | _, _, .exp1 hn hx r => .exp1 (e.nm hx hn) (e.keep _ _ hx hn) (RVf.extw e r)
theorem RVs.extw (e : ExtR M H M' H') : ∀ {ds : List D} {vs : List V}, RVs K mg M H ds vs → RVs K mg M' H' ds vs
  | _, _, .nil => .nil
  | _, _, .cons r rs => .cons (RV.extw e r) (RVs.extw e rs)
theorem RVf.extw (e : ExtR M H M' H') : ∀ {ds : List (Str × D)} {vs : List (Str × V)}, RVf K mg M H ds vs → RVf K mg M' H' ds vs
  | _, _, .nil => .nil
  | _, _, .cons r rs => .cons (RV.extw e r) (RVf.extw e rs)
end
theorem RV.ext (e : Ext M H M' H') {d : D} {v : V} (r : RV K mg M H d v) : RV K mg M' H' d v := r.extw e.toExtR
theorem RVs.ext (e : Ext M H M' H') {d : List D} {v : List V} (r : RVs K mg M H d v) : RVs K mg M' H' d v := r.extw e.toExtR
theorem RVf.ext (e : Ext M H M' H') {d : List (Str × D)} {v : List (Str × V)} (r : RVf K mg M H d v) : RVf K mg M' H' d v := r.extw e.toExtR
end
end DL

set_option Elab.async false
set_option linter.all false
set_option maxRecDepth 100000
set_option maxHeartbeats 4000000
namespace DL
open PySem PySem.Spec PyProof.Rows L2
open PySem.W (Frag)

abbrev DSt := List (Option D)
/-- an exception: its class by its name, its own fields -/
structure XD where
  n : Str
  fs : List (Str × D)
abbrev DK := D → HM → Prop
abbrev XDK := XD → HM → Prop
abbrev DTE := DSt → HM → DK → XDK → Prop
abbrev DTT := DSt → HM → (Bool → HM → Prop) → XDK → Prop
abbrev DTA := DSt → HM → (List D → HM → Prop) → XDK → Prop

/-- what the surroundings know: the tables of code objects, the world -/
class TB where
  T : List (Addr × Str)
  w : World
variable [TB]
mutual
/-- a key of any depth -/
def nkey : D → Option NestedKey
  | .non => some .none
  | .bl b => some (.num (if b then 1 else 0))
  | .int i => some (.num i)
  | .str x => some (.text x)
  | .tup ds => (nkeys ds).map .tup
  | _ => none
def nkeys : List D → Option (List NestedKey)
  | [] => some []
  | d :: ds => (nkey d).bind fun k => (nkeys ds).map (k :: ·)
end
/-- a dict with such keys: its own object -/
def DictN (w : World) (a : Addr) (xs : List (NestedKey × Addr × Value)) : HO := .ext fun h => ∃ o es ep, h.get? a = some o ∧ o.ExactDict ∧ o.data = .dict es ep ∧ es.toList = xs.map fun x => (⟨x.1.hash w, .ref x.2.1, x.2.2⟩ : DictEntry)
structure DN (K : Frag) (mg : Str → Option Value) (M : HM) (H : Hp) (a : Addr) (kvs : List (NestedKey × D)) (xs : List (NestedKey × Addr × Value)) (ks : List D) (vs : List V) : Prop where
  nm : (a == sysModules) = false
  len : kvs.length ≤ 1000000
  h : H a = some (DictN TB.w a xs)
  nd : (xs.map (·.1)).Nodup
  ke : kvs.map (·.1) = xs.map (·.1)
  dp : ∀ x ∈ xs, x.1.depth ≤ 8
  kd : ks.map nkey = xs.map fun x => some x.1
  kr : RVs K mg M H ks (xs.map fun x => V.ref x.2.1)
  vr : RVs K mg M H (kvs.map (·.2)) vs
  va : Vals vs (xs.map (·.2.2))
def RO (K : Frag) (mg : Str → Option Value) (M : HM) (H : Hp) (a : Addr) : MO → Prop
  | .lst ds => ∃ vs, H a = some (.lst vs) ∧ RVs K mg M H ds vs
  | .dK kvs => ∃ vs, H a = some (.dK ((kvs.map (·.1)).zip vs)) ∧ RVs K mg M H (kvs.map (·.2)) vs
  | .ins n fs => ∃ C dx vs, mg n = some (.ref C) ∧ H a = some (.ins C dx vs) ∧ RVf K mg M H fs vs
  | .dN kvs => ∃ xs ks vs, DN K mg M H a kvs xs ks vs
  | .tab q => ∃ ps : Array Value, H a = some (.tbl ps) ∧ TriplesOk ps.toList ∧ ∀ (pos : Pos) (cv : Value), codeAmong pos ps.toList = some cv → ∃ c, cv = .ref c ∧ M c = none ∧ H c = some (LamX.CodeO c q)
  | .hid => ∃ o, H a = some o
structure RH (K : Frag) (mg : Str → Option Value) (M : HM) (H : Hp) : Prop where
  ro : ∀ a o, M a = some o → RO K mg M H a o
  tb : ∀ p ∈ TB.T, M p.1 = some (.tab p.2)
instance {K : Frag} {mg : Str → Option Value} {M : HM} {H : Hp} : CoeFun (RH K mg M H) (fun _ => ∀ a o, M a = some o → RO K mg M H a o) := ⟨RH.ro⟩
structure RS (K : Frag) (mg : Str → Option Value) (M : HM) (H : Hp) (σd : DSt) (σ : L2.St) : Prop where
  loc : ∀ (i : Nat) d, σd[i]? = some (some d) → ∃ v, σ[i]? = some (some v) ∧ RV K mg M H d v
  len : σd.length = σ.length
/-- an exception's class and own dict -/
def RX (K : Frag) (mg : Str → Option Value) (M : HM) (H : Hp) (x : XD) (cls : Value) (dd : Option Addr) : Prop :=
  (mg x.n = some cls ∨ (mg x.n = none ∧ bootBuiltins x.n = some cls)) ∧
    match dd with
    | none => x.fs = []
    | some a => x.fs ≠ [] ∧ ∃ vs, M a = none ∧ H a = some (.xd vs) ∧ RVf K mg M H x.fs vs
def HE (K : Frag) (mg : Str → Option Value) (W : WX) (M : HM) (H : Hp) (σ : L2.St) (E : XDK) : Prop :=
  ∀ x M' H' cls dd, Ext M H M' H' → RH K mg M' H' → RX K mg M' H' x cls dd → E x (strip M') → W cls dd σ H'
def HQ (K : Frag) (mg : Str → Option Value) (M : HM) (H : Hp) (Qd : DK) (Q : VK) : Prop :=
  ∀ r M' v H', Ext M H M' H' → RH K mg M' H' → RV K mg M' H' r v → Qd r (strip M') → Q v H'
def HQT (K : Frag) (mg : Str → Option Value) (M : HM) (H : Hp) (Qd : Bool → HM → Prop) (Q : Bool → Hp → Prop) : Prop :=
  ∀ b M' H', Ext M H M' H' → RH K mg M' H' → Qd b (strip M') → Q b H'
def HQA (K : Frag) (mg : Str → Option Value) (M : HM) (H : Hp) (Qd : List D → HM → Prop) (Q : List V → Hp → Prop) : Prop :=
  ∀ rs M' vs H', Ext M H M' H' → RH K mg M' H' → RVs K mg M' H' rs vs → Qd rs (strip M') → Q vs H'
section
variable {K : Frag} {mg : Str → Option Value} {M M1 : HM} {H H1 : Hp} {W : WX} {σ : L2.St} {E : XDK}
theorem RS.extw (e : ExtR M H M1 H1) {σd : DSt} (r : RS K mg M H σd σ) : RS K mg M1 H1 σd σ :=
  ⟨fun i d h => let ⟨v, h1, h2⟩ := r.loc i d h; ⟨v, h1, h2.extw e⟩, r.len⟩
theorem RS.ext (e : Ext M H M1 H1) {σd : DSt} (r : RS K mg M H σd σ) : RS K mg M1 H1 σd σ := r.extw e.toExtR
theorem HE.ext (e : Ext M H M1 H1) (h : HE K mg W M H σ E) : HE K mg W M1 H1 σ E := fun x M' H' cls dd e' => h x M' H' cls dd (e.trans e')
theorem HQ.ext (e : Ext M H M1 H1) {Qd : DK} {Q : VK} (h : HQ K mg M H Qd Q) : HQ K mg M1 H1 Qd Q := fun r M' v H' e' => h r M' v H' (e.trans e')
theorem HQT.ext (e : Ext M H M1 H1) {Qd : Bool → HM → Prop} {Q : Bool → Hp → Prop} (h : HQT K mg M H Qd Q) : HQT K mg M1 H1 Qd Q := fun r M' H' e' => h r M' H' (e.trans e')
theorem HQA.ext (e : Ext M H M1 H1) {Qd : List D → HM → Prop} {Q : List V → Hp → Prop} (h : HQA K mg M H Qd Q) : HQA K mg M1 H1 Qd Q := fun r M' v H' e' => h r M' v H' (e.trans e')
theorem RS.set {σd : DSt} (r : RS K mg M H σd σ) {d : D} {v : V} (rv : RV K mg M H d v) (i : Nat) : RS K mg M H (σd.set i (some d)) (σ.set i (some v)) := by
  refine ⟨fun j d' h => ?_, by rw [List.length_set, List.length_set]; exact r.len⟩
  by_cases hj : i = j
  · subst hj
    have hl : i < σd.length := by
      have := (List.getElem?_eq_some_iff.mp h).1
      rwa [List.length_set] at this
    rw [List.getElem?_set_self hl] at h
    cases h
    exact ⟨v, List.getElem?_set_self (by rw [← r.len]; exact hl), rv⟩
  · rw [List.getElem?_set_ne hj] at h
    rw [List.getElem?_set_ne hj]
    exact r.loc j d' h
end
def lift (K : Frag) (mg : Str → Option Value) (W : WX) (d : DTE) : TE := fun σ H Q =>
  ∃ σd M Qd Ed, RS K mg M H σd σ ∧ RH K mg M H ∧ d σd (strip M) Qd Ed ∧ HE K mg W M H σ Ed ∧ HQ K mg M H Qd Q
def liftT (K : Frag) (mg : Str → Option Value) (W : WX) (d : DTT) : TT := fun σ H Q =>
  ∃ σd M Qd Ed, RS K mg M H σd σ ∧ RH K mg M H ∧ d σd (strip M) Qd Ed ∧ HE K mg W M H σ Ed ∧ HQT K mg M H Qd Q
def liftA (K : Frag) (mg : Str → Option Value) (W : WX) (d : DTA) : TA := fun σ H Q =>
  ∃ σd M Qd Ed, RS K mg M H σd σ ∧ RH K mg M H ∧ d σd (strip M) Qd Ed ∧ HE K mg W M H σ Ed ∧ HQA K mg M H Qd Q
/-- the surroundings of a part: what is wanted of exceptions, the pins -/
structure Tk (X : Cx) (pn : List (Addr × Obj)) (xe : Value → Shared → Prop) (W : WX) : Prop where
  tk : Takes (X.tr pn xe) W
  sub : ∀ q ∈ X.pn, q ∈ pn
structure DE (X : Cx) (e : Expr) (d : DTE) : Prop where
  run : ∀ (pn : List (Addr × Obj)) (xe : Value → Shared → Prop) (W : WX), Tk X pn xe W → PE (X.tr pn xe) e (lift X.K X.mg W d)
structure DT (X : Cx) (e : Expr) (d : DTT) : Prop where
  run : ∀ (pn : List (Addr × Obj)) (xe : Value → Shared → Prop) (W : WX), Tk X pn xe W → PT (X.tr pn xe) e (liftT X.K X.mg W d)
structure DW (X : Cx) (e : Expr) (d : DTT) : Prop where
  run : ∀ (pn : List (Addr × Obj)) (xe : Value → Shared → Prop) (W : WX), Tk X pn xe W → PW (X.tr pn xe) e (liftT X.K X.mg W d)
structure DA (X : Cx) (es : List Expr) (d : DTA) : Prop where
  run : ∀ (pn : List (Addr × Obj)) (xe : Value → Shared → Prop) (W : WX), Tk X pn xe W → PA (X.tr pn xe) es (liftA X.K X.mg W d)
theorem PE.weak {X : Cx} {e : Expr} {t t' : TE} (h : PE X e t) (k : ∀ σ H Q, t' σ H Q → t σ H Q) : PE X e t' := ⟨fun pins s σ H Q I q => h.run pins s σ H Q I (k σ H Q q)⟩
theorem PT.weak {X : Cx} {e : Expr} {t t' : TT} (h : PT X e t) (k : ∀ σ H Q, t' σ H Q → t σ H Q) : PT X e t' := ⟨fun pins s σ H Q I q => h.run pins s σ H Q I (k σ H Q q)⟩
theorem PW.weak {X : Cx} {e : Expr} {t t' : TT} (h : PW X e t) (k : ∀ σ H Q, t' σ H Q → t σ H Q) : PW X e t' := ⟨fun wh pins s σ H Q I q => h.run wh pins s σ H Q I (k σ H Q q)⟩
theorem PA.weak {X : Cx} {e : List Expr} {t t' : TA} (h : PA X e t) (k : ∀ σ H Q, t' σ H Q → t σ H Q) : PA X e t' := ⟨fun pos pins s σ H Q I q => h.run pos pins s σ H Q I (k σ H Q q)⟩
theorem DW.dt {X : Cx} {e : Expr} {d : DTT} (h : DW X e d) : DT X e d := ⟨fun pn xe W tk => (h.run pn xe W tk).pt⟩

section
variable {X : Cx} {a b : Expr} {da db : DTE} {pos : Pos}
/-! ### names, constants -/
def dVar (i : Nat) : DTE := fun σ M Q _ => match σ[i]? with
  | some (some d) => Q d M
  | _ => False
def dC (d : D) : DTE := fun _ M Q _ => Q d M
theorem de_var (i : Nat) {x : Str} (hN : X.N[i]? = some x := by rfl) (hv : Vis X.env.scope x := by first | exact Or.inl rfl | exact Or.inr (Or.inl rfl) | exact Or.inr (Or.inr rfl)) (hd : (x == ("__debug__" : Str)) = false := by decide)
    (hcd : (x == ("__classdict__" : Str)) = false := by decide) : DE X (.Name x pos) (dVar i) := by
  refine ⟨fun pn xe W tk => PE.weak (pe_var (X := X.tr pn xe) hN hv hd hcd) ?_⟩
  rintro σ H Q ⟨σd, M, Qd, Ed, rs, rh, h, hE, hQ⟩
  unfold dVar at h
  split at h
  · rename_i d e
    obtain ⟨v, e1, r⟩ := rs.loc i d e
    exact ⟨v, e1, hQ _ _ _ _ .refl rh r h⟩
  · exact h.elim
theorem de_c {e : Expr} {d : D} {v : V} (hp : ∀ pn xe, PE (X.tr pn xe) e (tC v)) (hr : ∀ M H, RV X.K X.mg M H d v) : DE X e (dC d) := by
  refine ⟨fun pn xe W tk => PE.weak (hp pn xe) ?_⟩
  rintro σ H Q ⟨σd, M, Qd, Ed, rs, rh, h, hE, hQ⟩
  exact hQ _ _ _ _ .refl rh (hr _ _) h
theorem de_int {i : Int} {j} : DE X (.Constant (.int i) j pos) (dC (.int i)) := de_c (fun _ _ => pe_int) fun _ _ => .int
theorem de_bl {i : Bool} {j} : DE X (.Constant (.bool i) j pos) (dC (.bl i)) := de_c (fun _ _ => pe_bl) fun _ _ => .bl
theorem de_non {j} : DE X (.Constant .none j pos) (dC .non) := de_c (fun _ _ => pe_non) fun _ _ => .non
theorem de_str {x : Str} {j} : DE X (.Constant (.str x) j pos) (dC (.str x)) := de_c (fun _ _ => pe_str) fun _ _ => .str
/-- a built-in's name as a value -/
theorem de_bltn {x : Str} {n : String} (hg : Gl X x) (hm : X.mg x = none) (hv : bootBuiltins x = some (.type n)) (hn : x ≠ "__name__" := by decide) (hd : (x == ("__debug__" : Str)) = false := by decide) :
    DE X (.Name x pos) (dC (.ty n)) := de_c (fun pn xe => pe_bltn (X := X.tr pn xe) (v := .ty n) hg hm hv rfl hn hd) fun _ _ => .ty
/-- a name of the module: a class, a function -/
theorem de_glob {x : Str} {C : Addr} (hg : Gl X x) (hm : X.mg x = some (.ref C)) (hd : (x == ("__debug__" : Str)) = false := by decide) : DE X (.Name x pos) (dC (.ref C)) :=
  de_c (fun pn xe => pe_glob (X := X.tr pn xe) (v := .ref C) hg hm rfl hd) fun _ _ => .ref
theorem de_globI {x : Str} {i : Int} {t : Tok} (hg : Gl X x) (hm : X.mg x = some (.int i t)) (hd : (x == ("__debug__" : Str)) = false := by decide) : DE X (.Name x pos) (dC (.int i)) :=
  de_c (fun pn xe => pe_glob (X := X.tr pn xe) (v := .int i) hg hm ⟨_, rfl⟩ hd) fun _ _ => .int
theorem de_globS {x : Str} {i : Str} {t : Tok} (hg : Gl X x) (hm : X.mg x = some (.str i t)) (hd : (x == ("__debug__" : Str)) = false := by decide) : DE X (.Name x pos) (dC (.str i)) :=
  de_c (fun pn xe => pe_glob (X := X.tr pn xe) (v := .str i) hg hm ⟨_, rfl⟩ hd) fun _ _ => .str

/-! ### two values and an operator -/
abbrev DO2 := D → D → HM → DK → Prop
def liftO (K : Frag) (mg : Str → Option Value) (od : DO2) : R2 := fun v u H Q => ∃ x y M Qd, RV K mg M H x v ∧ RV K mg M H y u ∧ RH K mg M H ∧ od x y (strip M) Qd ∧ HQ K mg M H Qd Q
def DOp (X : Cx) (f : Value → Value → Sem Value) (od : DO2) : Prop := ∀ pn xe, OpR (X.tr pn xe) f (liftO X.K X.mg od)
def dOp (od : DO2) (da db : DTE) : DTE := fun σ M Q E => da σ M (fun x M1 => db σ M1 (fun y M2 => od x y M2 Q) E) E
theorem lift_op {K : Frag} {mg : Str → Option Value} {W : WX} {od : DO2} {σ : L2.St} {H : Hp} {Q : VK} (h : lift K mg W (dOp od da db) σ H Q) : tOp (liftO K mg od) (lift K mg W da) (lift K mg W db) σ H Q := by
  obtain ⟨σd, M, Qd, Ed, rs, rh, h, hE, hQ⟩ := h
  refine ⟨σd, M, _, Ed, rs, rh, h, hE, fun x M1 v H1 e1 rh1 r1 q1 => ?_⟩
  refine ⟨σd, M1, _, Ed, rs.ext e1, rh1, q1, hE.ext e1, fun y M2 u H2 e2 rh2 r2 q2 => ?_⟩
  exact ⟨x, y, M2, Qd, r1.ext e2, r2, rh2, q2, (hQ.ext e1).ext e2⟩
theorem de_op {op : Operator} {od : DO2} (ho : DOp X (binaryOp op) od) (ha : DE X a da) (hb : DE X b db) : DE X (.BinOp a op b pos) (dOp od da db) :=
  ⟨fun pn xe W tk => PE.weak (pe_op (ho pn xe) (ha.run pn xe W tk) (hb.run pn xe W tk)) fun _ _ _ h => lift_op h⟩
theorem de_cmp {op : CmpOp} {od : DO2} (ho : DOp X (compareOp op) od) (ha : DE X a da) (hb : DE X b db) (hm : behindInMarks op b = false := by first | exact nomark _ | rfl) : DE X (.Compare a [op] [b] pos) (dOp od da db) :=
  ⟨fun pn xe W tk => PE.weak (pe_cmpR (ho pn xe) (ha.run pn xe W tk) (hb.run pn xe W tk) hm) fun _ _ _ h => lift_op h⟩
/-- a value that is a truth, as a test -/
def dB (d : DTE) : DTT := fun σ M Q E => d σ M (fun x M1 => match x with
  | .bl b => Q b M1
  | _ => False) E
theorem lift_b {K : Frag} {mg : Str → Option Value} {W : WX} {σ : L2.St} {H : Hp} {Q : Bool → Hp → Prop} (h : liftT K mg W (dB da) σ H Q) : lift K mg W da σ H fun x H1 => ∃ c, x = .bl c ∧ Q c H1 := by
  obtain ⟨σd, M, Qd, Ed, rs, rh, h, hE, hQ⟩ := h
  refine ⟨σd, M, _, Ed, rs, rh, h, hE, fun x M1 v H1 e1 rh1 r1 q1 => ?_⟩
  cases r1 with
  | bl => exact ⟨_, rfl, hQ _ _ _ e1 rh1 q1⟩
  | _ => exact q1.elim
theorem dt_cmp {op : CmpOp} {od : DO2} (ho : DOp X (compareOp op) od) (ha : DE X a da) (hb : DE X b db) (hm : behindInMarks op b = false := by first | exact nomark _ | rfl) : DT X (.Compare a [op] [b] pos) (dB (dOp od da db)) := by
  refine ⟨fun pn xe W tk => PT.weak (pt_cmpR (ho pn xe) (ha.run pn xe W tk) (hb.run pn xe W tk) hm) fun σ H Q h => ?_⟩
  show tOp _ _ _ σ H _
  exact lift_op (lift_b h)
theorem dt_val (h : DE X a da) (he : ∀ whole, isTrue a X.env whole = (do let v ← whole; standAt a.pos; holding [v] (truthy v)) := by intro _; rfl) : DT X a (dB da) :=
  ⟨fun pn xe W tk => PT.weak (pt_val (X := X.tr pn xe) (h.run pn xe W tk) he) fun σ H Q h => lift_b h⟩
end
end DL

set_option Elab.async false
set_option linter.all false
set_option maxRecDepth 100000
set_option maxHeartbeats 4000000
namespace DL
open PySem PySem.Spec PyProof.Rows L2
open PySem.W (Frag)
variable [TB]

/-! ### data -/
mutual
def toPy : D → PyData
  | .non => .none
  | .bl b => .bool b
  | .int i => .int i
  | .str x => .str x
  | .tup ds => .tuple (toPys ds)
  | .lst ds => .list (toPys ds)
  | .lsf ds => .list (toPys ds)
  | .byt _ => .none
  | .obj _ _ => .none
  | .ref _ => .none
  | .ty _ => .none
  | .exc _ _ => .none
  | .exp _ _ _ _ => .none
def toPys : List D → List PyData
  | [] => []
  | d :: ds => toPy d :: toPys ds
end
mutual
def isD : D → Bool
  | .non => true
  | .bl _ => true
  | .int _ => true
  | .str x => PyData.strOk x
  | .tup ds => isDs ds
  | .lst ds => isDs ds
  | .lsf ds => isDs ds
  | .byt _ => false
  | .obj _ _ => false
  | .ref _ => false
  | .ty _ => false
  | .exc _ _ => false
  | .exp _ _ _ _ => false
def isDs : List D → Bool
  | [] => true
  | d :: ds => isD d && isDs ds
end
def okD (d : D) : Bool := isD d && decide ((toPy d).depth ≤ 64)
def eqD (x y : D) : Bool := PyData.eqv (toPy x) (toPy y)
/-- a list that may be changed, as it stands -/
def rd (M : HM) : D → D
  | .ref a => match M a with
    | some (.lst ds) => .lst ds
    | _ => .ref a
  | d => d
section
variable {K : Frag} {mg : Str → Option Value} {M : HM} {H : Hp}
theorem sqT {a : Addr} {vs : List V} (h : (M a = none ∧ Rd H a (.tup vs)) ∨ cT K a vs) : SqT K H a vs := h.imp And.right id
theorem sqL {a : Addr} {vs : List V} (h : (M a = none ∧ Rd H a (.lst vs)) ∨ cL K a vs) : SqL K H a vs := h.imp And.right id
mutual
theorem dp_of : ∀ {d : D} {v : V}, isD d = true → RV K mg M H d v → Dp K H v (toPy d)
  | .non, _, _, r => by cases r; exact .non
  | .bl b, _, _, r => by cases r; exact .bl b
  | .int i, _, _, r => by cases r; exact .int i
  | .str x, _, _, r => by cases r; exact .str x
  | .tup ds, _, e, r => by
    cases r with
    | tup h rs => exact .tup (sqT h) (dps_of e rs)
  | .lst ds, _, e, r => by
    cases r with
    | lst hm h rs => exact .lst (SqL.of h) (dps_of e rs)
  | .lsf ds, _, e, r => by
    cases r with
    | lsf h rs => exact .lst (sqL h) (dps_of e rs)
  | .byt _, _, e, _ => by cases e
  | .obj _ _, _, e, _ => by cases e
  | .ref _, _, e, _ => by cases e
  | .ty _, _, e, _ => by cases e
theorem dps_of : ∀ {ds : List D} {vs : List V}, isDs ds = true → RVs K mg M H ds vs → DpAll K H vs (toPys ds)
  | [], _, _, r => by cases r; exact .nil
  | d :: ds, _, e, r => by
    cases r with
    | cons r rs =>
      have e' : isD d = true ∧ isDs ds = true := by simpa [isDs] using e
      exact .cons (dp_of e'.1 r) (dps_of e'.2 rs)
end
mutual
theorem canLay_toPy : ∀ d : D, isD d = true → (toPy d).canLay0 = true
  | .non, _ => rfl
  | .bl _, _ => rfl
  | .int _, _ => rfl
  | .str _, h => h
  | .tup ds, h => by show PyData.canLayAll0 (toPys ds) = true; exact canLays_toPy ds h
  | .lst ds, h => by show PyData.canLayAll0 (toPys ds) = true; exact canLays_toPy ds h
  | .lsf ds, h => by show PyData.canLayAll0 (toPys ds) = true; exact canLays_toPy ds h
  | .byt _, _ => rfl
  | .obj _ _, _ => rfl
  | .ref _, _ => rfl
  | .ty _, _ => rfl
theorem canLays_toPy : ∀ ds : List D, isDs ds = true → PyData.canLayAll0 (toPys ds) = true
  | [], _ => rfl
  | d :: ds, h => by
    have e' : isD d = true ∧ isDs ds = true := by simpa [isDs] using h
    show (PyData.canLay0 (toPy d) && PyData.canLayAll0 (toPys ds)) = true
    rw [canLay_toPy d e'.1, canLays_toPy ds e'.2]; rfl
end
theorem shaped_of {d : D} (h : okD d = true) : SeqAt.shaped (toPy d) = true := by
  unfold okD at h
  unfold SeqAt.shaped
  rw [canLay_toPy d (Bool.and_eq_true_iff.mp h).1, Bool.true_and]
  exact (Bool.and_eq_true_iff.mp h).2
theorem isD_of {d : D} (h : okD d = true) : isD d = true := (Bool.and_eq_true_iff.mp h).1
/-- a list as it stands reads as a tree (for a rule that only reads) -/
theorem dp_rd {d : D} {v : V} (rh : RH K mg M H) (r : RV K mg M H d v) (h : isD (rd (strip M) d) = true) : Dp K H v (toPy (rd (strip M) d)) := by
  cases r with
  | @ref a =>
    unfold rd at h ⊢
    dsimp only at h ⊢
    split at h
    · rename_i ds e
      obtain ⟨vs, h1, r1⟩ := rh a _ (strip_some e)
      show Dp K H (.ref a) (.list (toPys ds))
      exact .lst (SqL.of h1) (dps_of h r1)
    · cases h
  | non => exact .non
  | bl => exact .bl _
  | int => exact .int _
  | str => exact .str _
  | byt => cases h
  | ty => cases h
  | exc0 => cases h
  | exc1 => cases h
  | exp0 => cases h
  | exp1 => cases h
  | tup h1 rs => exact .tup (sqT h1) (dps_of h rs)
  | lst hm h1 rs => exact .lst (SqL.of h1) (dps_of h rs)
  | lsf h1 rs => exact .lst (sqL h1) (dps_of h rs)
  | obj => cases h
end
def isByt : D → Bool
  | .byt _ => true
  | _ => false
def bytEq : D → D → Bool
  | .byt a, .byt b => decide (a = b)
  | _, _ => false
/-! ### operators -/
def fEq : DO2 := fun x y M Q => (okD (rd M x) = true ∧ okD (rd M y) = true ∧ Q (.bl (eqD (rd M x) (rd M y))) M) ∨ (∃ a b, x = .byt a ∧ y = .byt b ∧ Q (.bl (decide (a = b))) M) ∨ (∃ a b : Str, x = .str a ∧ y = .str b ∧ Q (.bl (decide (a = b))) M)
def fNe : DO2 := fun x y M Q => (okD (rd M x) = true ∧ okD (rd M y) = true ∧ Q (.bl (!eqD (rd M x) (rd M y))) M) ∨ (∃ a b, x = .byt a ∧ y = .byt b ∧ Q (.bl (!decide (a = b))) M) ∨ (∃ a b : Str, x = .str a ∧ y = .str b ∧ Q (.bl (!decide (a = b))) M)
section
variable {X : Cx}
theorem op_fEq (hu : X.A.units + 64 < cLine) : DOp X (compareOp .Eq) fEq := by
  intro pn xe pins s σ H v u v' u' Q I rv ru h
  obtain ⟨x, y, M, Qd, rx, ry, rh, h, hQ⟩ := h
  rcases h with ⟨h1, h2, q⟩ | ⟨a, b, rfl, rfl, q⟩ | ⟨a, b, rfl, rfl, q⟩
  · exact op_eqD (X := X.tr pn xe) hu pins s σ H v u v' u' Q I rv ru ⟨_, _, dp_rd rh rx (isD_of h1), dp_rd rh ry (isD_of h2), shaped_of h1, shaped_of h2, hQ _ _ _ _ .refl rh .bl q⟩
  · cases rx
    cases ry
    exact op_eq (X := X.tr pn xe) pins s σ H _ _ v' u' Q I rv ru ⟨rfl, by
      have e : decide (V.byt a = V.byt b) = decide (a = b) := by
        by_cases h : a = b
        · subst h; simp
        · rw [decide_eq_false h, decide_eq_false (fun z => h (V.byt.inj z))]
      rw [e]
      exact hQ _ _ _ _ .refl rh .bl q⟩
  · cases rx
    cases ry
    exact op_eq (X := X.tr pn xe) pins s σ H _ _ v' u' Q I rv ru ⟨rfl, by
      have e : decide (V.str a = V.str b) = decide (a = b) := by
        by_cases h : a = b
        · subst h; simp
        · rw [decide_eq_false h, decide_eq_false (fun z => h (V.str.inj z))]
      rw [e]
      exact hQ _ _ _ _ .refl rh .bl q⟩
theorem op_fNe (hu : X.A.units + 64 < cLine) : DOp X (compareOp .NotEq) fNe := by
  intro pn xe pins s σ H v u v' u' Q I rv ru h
  obtain ⟨x, y, M, Qd, rx, ry, rh, h, hQ⟩ := h
  rcases h with ⟨h1, h2, q⟩ | ⟨a, b, rfl, rfl, q⟩ | ⟨a, b, rfl, rfl, q⟩
  · exact op_neD (X := X.tr pn xe) hu pins s σ H v u v' u' Q I rv ru ⟨_, _, dp_rd rh rx (isD_of h1), dp_rd rh ry (isD_of h2), shaped_of h1, shaped_of h2, hQ _ _ _ _ .refl rh .bl q⟩
  · cases rx
    cases ry
    exact op_ne (X := X.tr pn xe) pins s σ H _ _ v' u' Q I rv ru ⟨rfl, by
      have e : decide (V.byt a = V.byt b) = decide (a = b) := by
        by_cases h : a = b
        · subst h; simp
        · rw [decide_eq_false h, decide_eq_false (fun z => h (V.byt.inj z))]
      rw [e]
      exact hQ _ _ _ _ .refl rh .bl q⟩
  · cases rx
    cases ry
    exact op_ne (X := X.tr pn xe) pins s σ H _ _ v' u' Q I rv ru ⟨rfl, by
      have e : decide (V.str a = V.str b) = decide (a = b) := by
        by_cases h : a = b
        · subst h; simp
        · rw [decide_eq_false h, decide_eq_false (fun z => h (V.str.inj z))]
      rw [e]
      exact hQ _ _ _ _ .refl rh .bl q⟩
end
/-- both ints -/
def ii (f : Int → Int → HM → DK → Prop) : DO2 := fun x y M Q => match x, y with
  | .int i, .int j => f i j M Q
  | _, _ => False
section
variable {X : Cx}
theorem op_ii {f : Int → Int → HM → DK → Prop} {g : Value → Value → Sem Value} {C : Int → Int → Prop} {z : Int → Int → V} {zd : Int → Int → D} (ho : ∀ pn xe, OpR (X.tr pn xe) g (rI C z))
    (hz : ∀ i j M H, RV X.K X.mg M H (zd i j) (z i j)) (hf : ∀ i j M Q, f i j M Q → C i j ∧ Q (zd i j) M) : DOp X g (ii f) := by
  intro pn xe pins s σ H v u v' u' Q I rv ru h
  obtain ⟨x, y, M, Qd, rx, ry, rh, h, hQ⟩ := h
  unfold ii at h
  split at h
  · rename_i i j
    cases rx
    cases ry
    obtain ⟨c, q⟩ := hf _ _ _ _ h
    exact ho pn xe pins s σ H _ _ v' u' Q I rv ru ⟨i, j, rfl, rfl, c, hQ _ _ _ _ .refl rh (hz _ _ _ _) q⟩
  · exact h.elim
theorem rI_of {g : Value → Value → Sem Value} {z : Int → Int → V} {X : Cx} (h : OpR X g (rI0 z)) : OpR X g (rI (fun _ _ => True) z) := fun pins s σ H x y v u Q I rx ry ⟨i, j, e1, e2, _, q⟩ => h pins s σ H x y v u Q I rx ry ⟨i, j, e1, e2, q⟩
def fSub : DO2 := ii fun i j M Q => Q (.int (i - j)) M
theorem op_fSub : DOp X (binaryOp .Sub) fSub := op_ii (zd := fun i j => .int (i - j)) (fun _ _ => rI_of op_sub) (fun _ _ _ _ => .int) fun _ _ _ _ h => ⟨trivial, h⟩
def fLt : DO2 := ii fun i j M Q => Q (.bl (decide (i < j))) M
theorem op_fLt : DOp X (compareOp .Lt) fLt := op_ii (zd := fun i j => .bl _) (fun _ _ => rI_of op_lt) (fun _ _ _ _ => .bl) fun _ _ _ _ h => ⟨trivial, h⟩
def fLe : DO2 := ii fun i j M Q => Q (.bl (decide (i ≤ j))) M
theorem op_fLe : DOp X (compareOp .LtE) fLe := op_ii (zd := fun i j => .bl _) (fun _ _ => rI_of op_le) (fun _ _ _ _ => .bl) fun _ _ _ _ h => ⟨trivial, h⟩
def fGt : DO2 := ii fun i j M Q => Q (.bl (decide (j < i))) M
theorem op_fGt : DOp X (compareOp .Gt) fGt := op_ii (zd := fun i j => .bl _) (fun _ _ => rI_of op_gt) (fun _ _ _ _ => .bl) fun _ _ _ _ h => ⟨trivial, h⟩
def fGe : DO2 := ii fun i j M Q => Q (.bl (decide (j ≤ i))) M
theorem op_fGe : DOp X (compareOp .GtE) fGe := op_ii (zd := fun i j => .bl _) (fun _ _ => rI_of op_ge) (fun _ _ _ _ => .bl) fun _ _ _ _ h => ⟨trivial, h⟩
def fMod : DO2 := ii fun i j M Q => 0 < j ∧ Q (.int (i % j)) M
theorem op_fMod : DOp X (binaryOp .Mod) fMod := op_ii (zd := fun i j => .int (i % j)) (fun _ _ => op_mod) (fun _ _ _ _ => .int) fun _ _ _ _ h => h
def fDiv : DO2 := ii fun i j M Q => (0 < j ∧ j ≤ 10 ^ 200) ∧ Q (.int (i / j)) M
theorem div_ok {i j : Int} (h : 0 < j ∧ j ≤ 10 ^ 200) : CDivW i j := wide_div (b := 1000) h.1 (Nat.lt_of_le_of_lt (show j.natAbs ≤ 10 ^ 200 by omega) (by decide +kernel)) (by decide) (by decide)
theorem op_fDiv : DOp X (binaryOp .FloorDiv) fDiv := op_ii (zd := fun i j => .int (i / j)) (fun _ _ => op_fdivW) (fun _ _ _ _ => .int) fun _ _ _ _ h => ⟨div_ok h.1, h.2⟩
def fPow : DO2 := ii fun i j M Q => (0 ≤ j ∧ j ≤ 1000000 ∧ i.natAbs < 2 ^ 64) ∧ Q (.int (i ^ j.toNat)) M
theorem op_fPow : DOp X (binaryOp .Pow) fPow := op_ii (zd := fun i j => .int (i ^ j.toNat)) (fun _ _ => op_pow) (fun _ _ _ _ => .int) fun _ _ _ _ h => h
def fAnd : DO2 := ii fun i j M Q => Q (.int (Builtin.bitAnd i j)) M
theorem op_fAnd : DOp X (binaryOp .BitAnd) fAnd := op_ii (zd := fun i j => .int _) (fun _ _ => rI_of op_and) (fun _ _ _ _ => .int) fun _ _ _ _ h => ⟨trivial, h⟩
end
end DL

set_option Elab.async false
set_option linter.all false
set_option maxRecDepth 100000
set_option maxHeartbeats 4000000
namespace DL
open PySem PySem.Spec PyProof.Rows L2
open PySem.W (Frag)
variable [TB]

theorem le_line {n : Nat} (h : n ≤ 1000000) : n ≤ sizeLine := by rw [sizeLine_eq]; omega
section
variable {K : Frag} {mg : Str → Option Value} {M M' : HM} {H H' : Hp}
/-! ### lists of values -/
theorem RVs.length : ∀ {ds : List D} {vs : List V}, RVs K mg M H ds vs → ds.length = vs.length
  | _, _, .nil => rfl
  | _, _, .cons _ rs => by rw [List.length_cons, List.length_cons, RVs.length rs]
theorem RVs.append : ∀ {ds : List D} {vs : List V} {es : List D} {ws : List V}, RVs K mg M H ds vs → RVs K mg M H es ws → RVs K mg M H (ds ++ es) (vs ++ ws)
  | _, _, _, _, .nil, r => r
  | _, _, _, _, .cons r rs, t => .cons r (RVs.append rs t)
theorem RVs.get : ∀ {ds : List D} {vs : List V} {i : Nat} {v : V}, RVs K mg M H ds vs → vs[i]? = some v → ∃ d, ds[i]? = some d ∧ RV K mg M H d v
  | _, _, _, _, .nil, e => by simp at e
  | _, _, 0, _, .cons r _, e => by simp at e; subst e; exact ⟨_, rfl, r⟩
  | _, _, i + 1, v, .cons _ rs, e => by
    obtain ⟨d, h1, h2⟩ := RVs.get (i := i) (v := v) rs (by simpa using e)
    exact ⟨d, by simpa using h1, h2⟩
theorem RVs.getD : ∀ {ds : List D} {vs : List V} {i : Nat} {d : D}, RVs K mg M H ds vs → ds[i]? = some d → ∃ v, vs[i]? = some v ∧ RV K mg M H d v
  | _, _, _, _, .nil, e => by simp at e
  | _, _, 0, _, .cons r _, e => by simp at e; subst e; exact ⟨_, rfl, r⟩
  | _, _, i + 1, v, .cons _ rs, e => by
    obtain ⟨d, h1, h2⟩ := RVs.getD (i := i) (d := v) rs (by simpa using e)
    exact ⟨d, by simpa using h1, h2⟩
theorem RVs.take : ∀ {ds : List D} {vs : List V} (n : Nat), RVs K mg M H ds vs → RVs K mg M H (ds.take n) (vs.take n)
  | _, _, 0, _ => .nil
  | _, _, _ + 1, .nil => .nil
  | _, _, n + 1, .cons r rs => .cons r (RVs.take n rs)
theorem RVs.drop : ∀ {ds : List D} {vs : List V} (n : Nat), RVs K mg M H ds vs → RVs K mg M H (ds.drop n) (vs.drop n)
  | _, _, 0, r => r
  | _, _, _ + 1, .nil => .nil
  | _, _, n + 1, .cons _ rs => RVs.drop n rs
theorem RVs.set {d : D} {v : V} (r : RV K mg M H d v) : ∀ {ds : List D} {vs : List V} (i : Nat), RVs K mg M H ds vs → RVs K mg M H (ds.set i d) (vs.set i v)
  | _, _, _, .nil => .nil
  | _, _, 0, .cons _ t => .cons r t
  | _, _, i + 1, .cons q t => .cons q (RVs.set r i t)
theorem RVs.rep {ds : List D} {vs : List V} (r : RVs K mg M H ds vs) : ∀ k : Nat, RVs K mg M H (List.replicate k ds).flatten (List.replicate k vs).flatten
  | 0 => .nil
  | k + 1 => by
    rw [List.replicate_succ, List.replicate_succ, List.flatten_cons, List.flatten_cons]
    exact r.append (RVs.rep r k)
theorem RVs.reverse : ∀ {ds : List D} {vs : List V}, RVs K mg M H ds vs → RVs K mg M H ds.reverse vs.reverse
  | _, _, .nil => .nil
  | _, _, .cons r rs => by
    rw [List.reverse_cons, List.reverse_cons]
    exact (RVs.reverse rs).append (.cons r .nil)
theorem RVs.nil_iff {ds : List D} {vs : List V} (r : RVs K mg M H ds vs) : vs = [] ↔ ds = [] := by
  cases r with
  | nil => simp
  | cons => simp
theorem RVs.ints : ∀ {ns : List Int} {vs : List V}, RVs K mg M H (ns.map D.int) vs → vs = ns.map V.int
  | [], _, r => by cases r; rfl
  | n :: ns, _, r => by
    cases r with
    | cons r rs =>
      cases r
      rw [RVs.ints rs]; rfl
theorem RVs.bls : ∀ {ns : List Bool} {vs : List V}, RVs K mg M H (ns.map D.bl) vs → vs = ns.map V.bl
  | [], _, r => by cases r; rfl
  | n :: ns, _, r => by
    cases r with
    | cons r rs =>
      cases r
      rw [RVs.bls rs]; rfl
theorem RVs.strs : ∀ {ns : List Str} {vs : List V}, RVs K mg M H (ns.map D.str) vs → vs = ns.map V.str
  | [], _, r => by cases r; rfl
  | n :: ns, _, r => by
    cases r with
    | cons r rs =>
      cases r
      rw [RVs.strs rs]; rfl
theorem RVs.of_ints : ∀ ns : List Int, RVs K mg M H (ns.map D.int) (ns.map V.int)
  | [] => .nil
  | n :: ns => .cons .int (RVs.of_ints ns)

/-! ### a new object -/
/-- a new tuple, list: a tree -/
theorem Ext.new {a : Addr} {o : HO} (hn : H a = none) : Ext M H M (upd H a o) :=
  ⟨⟨⟨fun b u e _ => by rw [upd_ne (ne_of_none e hn)]; exact e, fun b h => .inl h⟩, fun b u e _ => by rw [upd_ne (ne_of_none e hn)]; exact e, fun _ h => h, fun _ _ h => h⟩, fun _ => Iff.rfl⟩
theorem RO.some_ {a : Addr} {o : MO} (r : RO K mg M H a o) : H a ≠ none := by
  cases o with
  | lst ds => obtain ⟨vs, e, _⟩ := r; rw [e]; simp
  | dK kvs => obtain ⟨vs, e, _⟩ := r; rw [e]; simp
  | ins n fs => obtain ⟨C, dx, vs, _, e, _⟩ := r; rw [e]; simp
  | dN kvs => obtain ⟨xs, ks, vs, r⟩ := r; rw [r.h]; simp
  | tab q => obtain ⟨ps, e, _⟩ := r; rw [e]; simp
  | hid => obtain ⟨o, e⟩ := r; rw [e]; simp
theorem RH.free (rh : RH K mg M H) {a : Addr} (h : H a = none) : M a = none := by
  cases q : M a with
  | none => rfl
  | some o => exact absurd h (rh a o q).some_
theorem DN.extw (e : ExtR M H M' H') {a : Addr} {kvs : List (NestedKey × D)} {xs : List (NestedKey × Addr × Value)} {ks : List D} {vs : List V} (hH : H' a = H a) (r : DN K mg M H a kvs xs ks vs) : DN K mg M' H' a kvs xs ks vs :=
  ⟨r.nm, r.len, by rw [hH]; exact r.h, r.nd, r.ke, r.dp, r.kd, r.kr.extw e, r.vr.extw e, r.va⟩
theorem RO.extw (e : ExtR M H M' H') {a : Addr} {o : MO} (hH : H' a = H a) (r : RO K mg M H a o) : RO K mg M' H' a o := by
  cases o with
  | lst ds => obtain ⟨vs, h, q⟩ := r; exact ⟨vs, by rw [hH]; exact h, q.extw e⟩
  | dK kvs => obtain ⟨vs, h, q⟩ := r; exact ⟨vs, by rw [hH]; exact h, q.extw e⟩
  | ins n fs => obtain ⟨C, dx, vs, hc, h, q⟩ := r; exact ⟨C, dx, vs, hc, by rw [hH]; exact h, q.extw e⟩
  | dN kvs => obtain ⟨xs, ks, vs, r⟩ := r; exact ⟨xs, ks, vs, r.extw e hH⟩
  | tab q =>
    obtain ⟨ps, h, ok, hc⟩ := r
    refine ⟨ps, by rw [hH]; exact h, ok, fun pos cv z => ?_⟩
    obtain ⟨c, e1, e2, e3⟩ := hc pos cv z
    exact ⟨c, e1, e.nm e3 e2, e.keep _ _ e3 e2⟩
  | hid => obtain ⟨x, h⟩ := r; exact ⟨x, by rw [hH]; exact h⟩
theorem RO.ext (e : Ext M H M' H') {a : Addr} {o : MO} (hH : H' a = H a) (r : RO K mg M H a o) : RO K mg M' H' a o := r.extw e.toExtR hH
theorem RH.new (rh : RH K mg M H) {a : Addr} {o : HO} (hn : H a = none) : RH K mg M (upd H a o) := ⟨fun b u e => by
  have hb : b ≠ a := fun z => by rw [z, rh.free hn] at e; cases e
  exact (rh b u e).ext (Ext.new hn) (upd_ne hb), rh.tb⟩
theorem Ext.newM {a : Addr} {o : HO} {u : MO} (hn : H a = none) (hm : M a = none) (nh : shy (some u) = false) : Ext M H (mup M a u) (upd H a o) := by
  have ne : ∀ {b : Addr} {x : MO}, M b = some x → b ≠ a := fun {b x} h z => by rw [z, hm] at h; cases h
  refine ⟨⟨⟨fun b v e _ => by rw [upd_ne (ne_of_none e hn)]; exact e, fun b h => ?_⟩, fun b v e _ => by rw [upd_ne (ne_of_none e hn)]; exact e, fun b h => by rw [mup_ne (ne h)]; exact h, fun b q h => by rw [mup_ne (ne h)]; exact h⟩, fun b => ?_⟩
  · by_cases hb : b = a
    · subst hb; exact .inr hn
    · rw [mup_ne hb] at h; exact .inl h
  · by_cases hb : b = a
    · subst hb; rw [mup_same, hm]; exact ⟨fun z => absurd z (shy_hid nh), fun z => nomatch z⟩
    · rw [mup_ne hb]
theorem RH.newM (rh : RH K mg M H) {a : Addr} {o : HO} {u : MO} (hn : H a = none) (nh : shy (some u) = false) (hu : RO K mg (mup M a u) (upd H a o) a u) : RH K mg (mup M a u) (upd H a o) := by
  refine ⟨fun b v e => ?_, fun p hp => (Ext.newM (o := o) hn (rh.free hn) nh).tb _ _ (rh.tb p hp)⟩
  by_cases hb : b = a
  · subst hb
    rw [mup_same] at e
    cases e
    exact hu
  · rw [mup_ne hb] at e
    exact (rh b v e).ext (Ext.newM hn (rh.free hn) nh) (upd_ne hb)
/-- an object that may be changed is changed -/
theorem Ext.wr {a : Addr} {o : HO} {u : MO} (ha : M a ≠ none) (nm : shy (M a) = false) (nh : shy (some u) = false) : Ext M H (mup M a u) (upd H a o) := by
  have ne : ∀ {b : Addr}, shy (M b) = true → b ≠ a := fun {b} h z => by rw [z, nm] at h; cases h
  refine ⟨⟨⟨fun b v e n => ?_, fun b h => ?_⟩, fun b v e n => ?_, fun b h => ?_, fun b q h => ?_⟩, fun b => ?_⟩
  · have hb : b ≠ a := fun z => ha (by rw [← z]; exact n)
    rw [upd_ne hb]; exact e
  · by_cases hb : b = a
    · subst hb; exact .inl ha
    · rw [mup_ne hb] at h; exact .inl h
  · rw [upd_ne (ne (by rw [n]; rfl))]; exact e
  · rw [mup_ne (ne (by rw [h]; rfl))]; exact h
  · rw [mup_ne (ne (by rw [h]; rfl))]; exact h
  · by_cases hb : b = a
    · subst hb; rw [mup_same]; exact ⟨fun z => absurd z (shy_hid nh), fun z => absurd z (shy_hid nm)⟩
    · rw [mup_ne hb]
theorem RH.wr (rh : RH K mg M H) {a : Addr} {o : HO} {u : MO} (ha : M a ≠ none) (nm : shy (M a) = false) (nh : shy (some u) = false) (hu : RO K mg (mup M a u) (upd H a o) a u) : RH K mg (mup M a u) (upd H a o) := by
  refine ⟨fun b v e => ?_, fun p hp => (Ext.wr (H := H) (o := o) ha nm nh).tb _ _ (rh.tb p hp)⟩
  by_cases hb : b = a
  · subst hb
    rw [mup_same] at e
    cases e
    exact hu
  · rw [mup_ne hb] at e
    exact (rh b v e).ext (Ext.wr ha nm nh) (upd_ne hb)
/-- forgetting what may be changed: it isn't any more -/
theorem Ext.sub (h : ∀ b, M' b ≠ none → M' b = M b) (hh : ∀ b, shy (M b) = true → M' b = M b) : Ext M H M' H :=
  ⟨⟨⟨fun _ _ e _ => e, fun b n => .inl (by rw [← h b n]; exact n)⟩, fun _ _ e _ => e, fun b n => by rw [hh b (by rw [n]; rfl)]; exact n, fun b q n => by rw [hh b (by rw [n]; rfl)]; exact n⟩, fun b => ⟨fun z => by rw [← h b (by rw [z]; simp)]; exact z, fun n => by rw [hh b (by rw [n]; rfl)]; exact n⟩⟩
theorem RH.sub (rh : RH K mg M H) (h : ∀ b, M' b ≠ none → M' b = M b) (hh : ∀ b, shy (M b) = true → M' b = M b) : RH K mg M' H := ⟨fun b o e => by
  have n : M' b ≠ none := by rw [e]; simp
  exact (rh b o (by rw [← h b n]; exact e)).ext (Ext.sub h hh) rfl, fun p hp => (Ext.sub (H := H) h hh).tb _ _ (rh.tb p hp)⟩
end

/-! ### sequences that are read -/
/-- what may be walked, indexed, cut: a list as it stands -/
def lstOf (M : HM) : D → Option (List D)
  | .lst ds => some ds
  | .lsf ds => some ds
  | .ref a => match M a with
    | some (.lst ds) => some ds
    | _ => none
  | _ => none
theorem lst_of {K : Frag} {mg : Str → Option Value} {M : HM} {H : Hp} {d : D} {v : V} {ds : List D} (rh : RH K mg M H) (r : RV K mg M H d v) (h : lstOf (strip M) d = some ds) : ∃ a vs, v = .ref a ∧ SqL K H a vs ∧ RVs K mg M H ds vs := by
  cases r with
  | lst hm e rs => cases h; exact ⟨_, _, rfl, SqL.of e, rs⟩
  | lsf e rs => cases h; exact ⟨_, _, rfl, sqL e, rs⟩
  | @ref a =>
    unfold lstOf at h
    dsimp only at h
    split at h
    · rename_i ds' e
      cases h
      obtain ⟨vs, e1, rs⟩ := rh a _ (strip_some e)
      exact ⟨_, _, rfl, SqL.of e1, rs⟩
    · cases h
  | _ => cases h
/-- a list that the layer tracks -/
def trkOf (M : HM) : D → Option (List D)
  | .lst ds => some ds
  | .ref a => match M a with
    | some (.lst ds) => some ds
    | _ => none
  | _ => none
theorem trk_of {K : Frag} {mg : Str → Option Value} {M : HM} {H : Hp} {d : D} {v : V} {ds : List D} (rh : RH K mg M H) (r : RV K mg M H d v) (h : trkOf (strip M) d = some ds) : ∃ a vs, v = .ref a ∧ H a = some (.lst vs) ∧ RVs K mg M H ds vs := by
  cases r with
  | lst hm e rs => cases h; exact ⟨_, _, rfl, e, rs⟩
  | @ref a =>
    unfold trkOf at h
    dsimp only at h
    split at h
    · rename_i ds' e
      cases h
      obtain ⟨vs, e1, rs⟩ := rh a _ (strip_some e)
      exact ⟨_, _, rfl, e1, rs⟩
    · cases h
  | _ => cases h
def tupOf : D → Option (List D)
  | .tup ds => some ds
  | _ => none
theorem tup_of {K : Frag} {mg : Str → Option Value} {M : HM} {H : Hp} {d : D} {v : V} {ds : List D} (r : RV K mg M H d v) (h : tupOf d = some ds) : ∃ a vs, v = .ref a ∧ SqT K H a vs ∧ RVs K mg M H ds vs := by
  cases r with
  | tup e rs => cases h; exact ⟨_, _, rfl, sqT e, rs⟩
  | _ => cases h
/-- a new tuple's tree -/
theorem rv_tup {K : Frag} {mg : Str → Option Value} {M : HM} {H : Hp} {ds : List D} {vs : List V} {p : Addr} (rh : RH K mg M H) (hp : H p = none) (r : RVs K mg M H ds vs) : RV K mg M (upd H p (.tup vs)) (.tup ds) (.ref p) :=
  .tup (.inl ⟨rh.free hp, .inl upd_same⟩) (r.ext (Ext.new hp))
theorem rv_lst {K : Frag} {mg : Str → Option Value} {M : HM} {H : Hp} {ds : List D} {vs : List V} {p : Addr} (rh : RH K mg M H) (hp : H p = none) (r : RVs K mg M H ds vs) : RV K mg M (upd H p (.lst vs)) (.lst ds) (.ref p) :=
  .lst (rh.free hp) upd_same (r.ext (Ext.new hp))
theorem HQ.tup {K : Frag} {mg : Str → Option Value} {M : HM} {H : Hp} {ds : List D} {vs : List V} {p : Addr} {Qd : DK} {Q : VK} (hQ : HQ K mg M H Qd Q) (rh : RH K mg M H) (hp : H p = none) (r : RVs K mg M H ds vs) (q : Qd (.tup ds) (strip M)) : Q (.ref p) (upd H p (.tup vs)) :=
  hQ _ _ _ _ (Ext.new hp) (rh.new hp) (rv_tup rh hp r) q
theorem HQ.lst {K : Frag} {mg : Str → Option Value} {M : HM} {H : Hp} {ds : List D} {vs : List V} {p : Addr} {Qd : DK} {Q : VK} (hQ : HQ K mg M H Qd Q) (rh : RH K mg M H) (hp : H p = none) (r : RVs K mg M H ds vs) (q : Qd (.lst ds) (strip M)) : Q (.ref p) (upd H p (.lst vs)) :=
  hQ _ _ _ _ (Ext.new hp) (rh.new hp) (rv_lst rh hp r) q

/-! ### + -/
def fAdd : DO2 := fun x y M Q => match x, y with
  | .int i, .int j => Q (.int (i + j)) M
  | .str i, .str j => i.length + j.length ≤ 1000000 ∧ Q (.str (i ++ j)) M
  | .byt i, .byt j => i.size + j.size ≤ 1000000 ∧ Q (.byt (i ++ j)) M
  | .tup xs, .tup ys => xs.length + ys.length ≤ 1000000 ∧ Q (.tup (xs ++ ys)) M
  | x, y => match trkOf M x, trkOf M y with
    | some xs, some ys => xs.length + ys.length ≤ 1000000 ∧ Q (.lst (xs ++ ys)) M
    | _, _ => False
section
variable {X : Cx}
theorem op_fAdd : DOp X (binaryOp .Add) fAdd := by
  intro pn xe pins s σ H v u v' u' Q I rv ru h
  obtain ⟨x, y, M, Qd, rx, ry, rh, h, hQ⟩ := h
  unfold fAdd at h
  split at h
  · cases rx; cases ry
    exact op_add (X := X.tr pn xe) pins s σ H _ _ v' u' Q I rv ru ⟨_, _, rfl, rfl, hQ _ _ _ _ .refl rh .int h⟩
  · cases rx; cases ry
    exact op_add_str (X := X.tr pn xe) pins s σ H _ _ v' u' Q I rv ru ⟨_, _, rfl, rfl, le_line h.1, hQ _ _ _ _ .refl rh .str h.2⟩
  · cases rx; cases ry
    exact op_add_byt (X := X.tr pn xe) pins s σ H _ _ v' u' Q I rv ru ⟨_, _, rfl, rfl, by have := h.1; omega, hQ _ _ _ _ .refl rh .byt h.2⟩
  · have rx' := rx
    have ry' := ry
    cases rx with
    | tup ha rs =>
      cases ry with
      | tup hb rt =>
        refine op_catA (X := X.tr pn xe) pins s σ H _ _ v' u' Q I rv ru ⟨_, _, _, _, rfl, rfl, sqT ha, sqT hb, by rw [← rs.length, ← rt.length]; exact le_line h.1, fun e => ?_, fun _ e => ?_, fun _ _ p hp => ?_⟩
        · have e' := rs.nil_iff.mp e
          subst e'
          exact hQ _ _ _ _ .refl rh ry' h.2
        · have e' := rt.nil_iff.mp e
          subst e'
          refine hQ _ _ _ _ .refl rh rx' ?_
          have q := h.2
          rw [List.append_nil] at q
          exact q
        · exact hQ.tup rh hp (rs.append rt) h.2
  · split at h
    · rename_i xs ys e1 e2
      obtain ⟨a, vs, rfl, ha, rs⟩ := trk_of rh rx e1
      obtain ⟨b, ws, rfl, hb, rt⟩ := trk_of rh ry e2
      exact op_cat (X := X.tr pn xe) pins s σ H _ _ v' u' Q I rv ru ⟨_, _, _, _, rfl, rfl, ha, hb, by rw [← rs.length, ← rt.length]; exact le_line h.1, fun p hp => hQ.lst rh hp (rs.append rt) h.2⟩
    · exact h.elim
/-! ### is None -/
def isNon : D → Bool
  | .non => true
  | _ => false
def fIsN : DO2 := fun x y M Q => match y with
  | .non => Q (.bl (isNon x)) M
  | _ => False
def fNotN : DO2 := fun x y M Q => match y with
  | .non => Q (.bl (!isNon x)) M
  | _ => False
theorem isNon_of {K : Frag} {mg : Str → Option Value} {M : HM} {H : Hp} {d : D} {v : V} (r : RV K mg M H d v) : decide (v = .non) = isNon d := by
  cases r <;> simp [isNon]
theorem op_fIsN : DOp X (compareOp .Is) fIsN := by
  intro pn xe pins s σ H v u v' u' Q I rv ru h
  obtain ⟨x, y, M, Qd, rx, ry, rh, h, hQ⟩ := h
  unfold fIsN at h
  split at h
  · cases ry
    exact op_isN (X := X.tr pn xe) pins s σ H _ _ v' u' Q I rv ru ⟨rfl, by rw [isNon_of rx]; exact hQ _ _ _ _ .refl rh .bl h⟩
  · exact h.elim
theorem op_fNotN : DOp X (compareOp .IsNot) fNotN := by
  intro pn xe pins s σ H v u v' u' Q I rv ru h
  obtain ⟨x, y, M, Qd, rx, ry, rh, h, hQ⟩ := h
  unfold fNotN at h
  split at h
  · cases ry
    exact op_notN (X := X.tr pn xe) pins s σ H _ _ v' u' Q I rv ru ⟨rfl, by rw [isNon_of rx]; exact hQ _ _ _ _ .refl rh .bl h⟩
  · exact h.elim
end

/-! ### truth -/
def tru (M : HM) : D → Option Bool
  | .non => some false
  | .bl b => some b
  | .int i => some (i != 0)
  | .str x => if x.length ≤ 1000000 then some ((x.length : Int) != 0) else none
  | .tup ds => some (!ds.isEmpty)
  | .lst ds => some (!ds.isEmpty)
  | .lsf ds => some (!ds.isEmpty)
  | .ref a => match M a with
    | some (.lst ds) => some (!ds.isEmpty)
    | some (.dK kvs) => some (!kvs.isEmpty)
    | _ => none
  | _ => none
theorem RVs.isEmpty {K : Frag} {mg : Str → Option Value} {M : HM} {H : Hp} {ds : List D} {vs : List V} (r : RVs K mg M H ds vs) : vs.isEmpty = ds.isEmpty := by
  cases r <;> rfl
theorem tru_of {K : Frag} {mg : Str → Option Value} {M : HM} {H : Hp} {d : D} {v : V} {b : Bool} (rh : RH K mg M H) (r : RV K mg M H d v) (h : tru (strip M) d = some b) : TruV K v H b := by
  cases r with
  | non => cases h; exact rfl
  | bl => cases h; exact rfl
  | int => cases h; exact rfl
  | str =>
    unfold tru at h
    dsimp only at h
    split at h
    · cases h; exact ⟨le_line (by assumption), rfl⟩
    · cases h
  | byt => cases h
  | ty => cases h
  | exc0 => cases h
  | exc1 => cases h
  | exp0 => cases h
  | exp1 => cases h
  | obj => cases h
  | tup e rs => cases h; exact .inr (.inl ⟨_, sqT e, by rw [rs.isEmpty]⟩)
  | lst hm e rs => cases h; exact .inl ⟨_, SqL.of e, by rw [rs.isEmpty]⟩
  | lsf e rs => cases h; exact .inl ⟨_, sqL e, by rw [rs.isEmpty]⟩
  | @ref a =>
    unfold tru at h
    dsimp only at h
    split at h
    · rename_i ds' e
      cases h
      obtain ⟨vs, e1, rs⟩ := rh a _ (strip_some e)
      exact .inl ⟨_, SqL.of e1, by rw [rs.isEmpty]⟩
    · rename_i ds' e
      cases h
      obtain ⟨vs, e1, rs⟩ := rh a _ (strip_some e)
      refine .inr (.inr ⟨_, e1, ?_⟩)
      have hl := rs.length
      rw [List.length_map] at hl
      cases ds' with
      | nil => cases vs <;> simp at hl ⊢
      | cons p q =>
        cases vs with
        | nil => simp at hl
        | cons => simp
    · cases h
section
variable {X : Cx} {a b c : Expr} {da db dc : DTE} {ta tb tc : DTT} {rest : List Expr} {pos : Pos}
def dTru (d : DTE) : DTT := fun σ M Q E => d σ M (fun x M1 => match tru M1 x with
  | some k => Q k M1
  | none => False) E
theorem dt_truth (h : DE X a da) (he : ∀ whole, isTrue a X.env whole = (do let v ← whole; standAt a.pos; holding [v] (truthy v)) := by intro _; rfl) : DT X a (dTru da) := by
  refine ⟨fun pn xe W tk => PT.weak (pt_truth (X := X.tr pn xe) (h.run pn xe W tk) he) fun σ H Q h => ?_⟩
  obtain ⟨σd, M, Qd, Ed, rs, rh, h, hE, hQ⟩ := h
  refine ⟨σd, M, _, Ed, rs, rh, h, hE, fun x M1 v H1 e1 rh1 r1 q1 => ?_⟩
  dsimp only at q1
  split at q1
  · rename_i k e
    exact ⟨k, tru_of rh1 r1 e, hQ _ _ _ e1 rh1 q1⟩
  · exact q1.elim
/-! ### and, or, not -/
def dAndT (t u : DTT) : DTT := fun σ M Q E => t σ M (fun c M1 => (c = true → u σ M1 Q E) ∧ (c = false → Q false M1)) E
def dOrT (t u : DTT) : DTT := fun σ M Q E => t σ M (fun c M1 => (c = true → Q true M1) ∧ (c = false → u σ M1 Q E)) E
def dNotT (t : DTT) : DTT := fun σ M Q E => t σ M (fun c M1 => Q (!c) M1) E
theorem dw_and1 (h : DT X a ta) : DW X (.BoolOp .And [a] pos) ta := ⟨fun pn xe W tk => pw_and1 (h.run pn xe W tk)⟩
theorem dw_or1 (h : DT X a ta) : DW X (.BoolOp .Or [a] pos) ta := ⟨fun pn xe W tk => pw_or1 (h.run pn xe W tk)⟩
theorem dw_and (ha : DT X a ta) (hb : DW X (.BoolOp .And (b :: rest) pos) tb) : DW X (.BoolOp .And (a :: b :: rest) pos) (dAndT ta tb) := by
  refine ⟨fun pn xe W tk => PW.weak (pw_and (ha.run pn xe W tk) (hb.run pn xe W tk)) fun σ H Q h => ?_⟩
  obtain ⟨σd, M, Qd, Ed, rs, rh, h, hE, hQ⟩ := h
  refine ⟨σd, M, _, Ed, rs, rh, h, hE, fun c M1 H1 e1 rh1 q1 => ?_⟩
  cases c with
  | true => exact iteT ⟨σd, M1, _, Ed, rs.ext e1, rh1, q1.1 rfl, hE.ext e1, hQ.ext e1⟩
  | false => exact iteF (hQ _ _ _ e1 rh1 (q1.2 rfl))
theorem dw_or (ha : DT X a ta) (hb : DW X (.BoolOp .Or (b :: rest) pos) tb) : DW X (.BoolOp .Or (a :: b :: rest) pos) (dOrT ta tb) := by
  refine ⟨fun pn xe W tk => PW.weak (pw_or (ha.run pn xe W tk) (hb.run pn xe W tk)) fun σ H Q h => ?_⟩
  obtain ⟨σd, M, Qd, Ed, rs, rh, h, hE, hQ⟩ := h
  refine ⟨σd, M, _, Ed, rs, rh, h, hE, fun c M1 H1 e1 rh1 q1 => ?_⟩
  cases c with
  | true => exact iteT (hQ _ _ _ e1 rh1 (q1.1 rfl))
  | false => exact iteF ⟨σd, M1, _, Ed, rs.ext e1, rh1, q1.2 rfl, hE.ext e1, hQ.ext e1⟩
theorem dt_not (h : DT X a ta) : DT X (.UnaryOp .Not a pos) (dNotT ta) := by
  refine ⟨fun pn xe W tk => PT.weak (pt_not (h.run pn xe W tk)) fun σ H Q h => ?_⟩
  obtain ⟨σd, M, Qd, Ed, rs, rh, h, hE, hQ⟩ := h
  exact ⟨σd, M, _, Ed, rs, rh, h, hE, fun c M1 H1 e1 rh1 q1 => hQ _ _ _ e1 rh1 q1⟩
/-- as values -/
def dAndV (d e : DTE) : DTE := fun σ M Q E => d σ M (fun x M1 => match tru M1 x with
  | some k => (k = true → e σ M1 Q E) ∧ (k = false → Q x M1)
  | none => False) E
def dOrV (d e : DTE) : DTE := fun σ M Q E => d σ M (fun x M1 => match tru M1 x with
  | some k => (k = true → Q x M1) ∧ (k = false → e σ M1 Q E)
  | none => False) E
def dNotV (d : DTE) : DTE := fun σ M Q E => d σ M (fun x M1 => match tru M1 x with
  | some k => Q (.bl (!k)) M1
  | none => False) E
theorem de_one {op} (h : DE X a da) : DE X (.BoolOp op [a] pos) da := ⟨fun pn xe W tk => pe_one (h.run pn xe W tk)⟩
theorem de_and (ha : DE X a da) (hb : DE X (.BoolOp .And (b :: rest) pos) db) : DE X (.BoolOp .And (a :: b :: rest) pos) (dAndV da db) := by
  refine ⟨fun pn xe W tk => PE.weak (pe_andT (X := X.tr pn xe) (ha.run pn xe W tk) (hb.run pn xe W tk)) fun σ H Q h => ?_⟩
  obtain ⟨σd, M, Qd, Ed, rs, rh, h, hE, hQ⟩ := h
  refine ⟨σd, M, _, Ed, rs, rh, h, hE, fun x M1 v H1 e1 rh1 r1 q1 => ?_⟩
  dsimp only at q1
  split at q1
  · rename_i k e
    refine ⟨k, tru_of rh1 r1 e, ?_⟩
    cases k with
    | true => exact iteT ⟨σd, M1, _, Ed, rs.ext e1, rh1, q1.1 rfl, hE.ext e1, hQ.ext e1⟩
    | false => exact iteF (hQ _ _ _ _ e1 rh1 r1 (q1.2 rfl))
  · exact q1.elim
theorem de_or (ha : DE X a da) (hb : DE X (.BoolOp .Or (b :: rest) pos) db) : DE X (.BoolOp .Or (a :: b :: rest) pos) (dOrV da db) := by
  refine ⟨fun pn xe W tk => PE.weak (pe_orT (X := X.tr pn xe) (ha.run pn xe W tk) (hb.run pn xe W tk)) fun σ H Q h => ?_⟩
  obtain ⟨σd, M, Qd, Ed, rs, rh, h, hE, hQ⟩ := h
  refine ⟨σd, M, _, Ed, rs, rh, h, hE, fun x M1 v H1 e1 rh1 r1 q1 => ?_⟩
  dsimp only at q1
  split at q1
  · rename_i k e
    refine ⟨k, tru_of rh1 r1 e, ?_⟩
    cases k with
    | true => exact iteT (hQ _ _ _ _ e1 rh1 r1 (q1.1 rfl))
    | false => exact iteF ⟨σd, M1, _, Ed, rs.ext e1, rh1, q1.2 rfl, hE.ext e1, hQ.ext e1⟩
  · exact q1.elim
theorem de_not (ha : DE X a da) : DE X (.UnaryOp .Not a pos) (dNotV da) := by
  refine ⟨fun pn xe W tk => PE.weak (pe_notT (X := X.tr pn xe) (ha.run pn xe W tk)) fun σ H Q h => ?_⟩
  obtain ⟨σd, M, Qd, Ed, rs, rh, h, hE, hQ⟩ := h
  refine ⟨σd, M, _, Ed, rs, rh, h, hE, fun x M1 v H1 e1 rh1 r1 q1 => ?_⟩
  dsimp only at q1
  split at q1
  · rename_i k e
    exact ⟨k, tru_of rh1 r1 e, hQ _ _ _ _ e1 rh1 .bl q1⟩
  · exact q1.elim
/-- a if t else b -/
def dIfE (t : DTT) (d e : DTE) : DTE := fun σ M Q E => t σ M (fun c M1 => (c = true → d σ M1 Q E) ∧ (c = false → e σ M1 Q E)) E
theorem de_ifE (hc : DT X c ta) (ha : DE X a da) (hb : DE X b db) : DE X (.IfExp c a b pos) (dIfE ta da db) := by
  refine ⟨fun pn xe W tk => PE.weak (pe_ifExp (hc.run pn xe W tk) (ha.run pn xe W tk) (hb.run pn xe W tk)) fun σ H Q h => ?_⟩
  obtain ⟨σd, M, Qd, Ed, rs, rh, h, hE, hQ⟩ := h
  refine ⟨σd, M, _, Ed, rs, rh, h, hE, fun c M1 H1 e1 rh1 q1 => ?_⟩
  cases c with
  | true => exact iteT ⟨σd, M1, _, Ed, rs.ext e1, rh1, q1.1 rfl, hE.ext e1, hQ.ext e1⟩
  | false => exact iteF ⟨σd, M1, _, Ed, rs.ext e1, rh1, q1.2 rfl, hE.ext e1, hQ.ext e1⟩
/-- a op b op' c -/
def dChain (od od' : DO2) (da db dc : DTE) : DTE := fun σ M Q E => da σ M (fun x M1 => db σ M1 (fun y M2 => od x y M2 fun z M3 => match z with
  | .bl k => (k = true → dc σ M3 (fun w M4 => od' y w M4 Q) E) ∧ (k = false → Q (.bl false) M3)
  | _ => False) E) E
theorem lift_chain {K : Frag} {mg : Str → Option Value} {W : WX} {od od' : DO2} {σ : L2.St} {H : Hp} {Q : VK} (h : lift K mg W (dChain od od' da db dc) σ H Q) :
    tChain (liftO K mg od) (liftO K mg od') (lift K mg W da) (lift K mg W db) (lift K mg W dc) σ H Q := by
  obtain ⟨σd, M, Qd, Ed, rs, rh, h, hE, hQ⟩ := h
  refine ⟨σd, M, _, Ed, rs, rh, h, hE, fun x M1 v H1 e1 rh1 r1 q1 => ?_⟩
  refine ⟨σd, M1, _, Ed, rs.ext e1, rh1, q1, hE.ext e1, fun y M2 u H2 e2 rh2 r2 q2 => ?_⟩
  refine ⟨x, y, M2, _, r1.ext e2, r2, rh2, q2, fun z M3 w H3 e3 rh3 r3 q3 => ?_⟩
  cases r3 with
  | @bl k =>
    refine ⟨k, rfl, ?_⟩
    cases k with
    | false => exact iteF (hQ _ _ _ _ ((e1.trans e2).trans e3) rh3 .bl (q3.2 rfl))
    | true =>
      refine iteT ⟨σd, M3, _, Ed, ((rs.ext e1).ext e2).ext e3, rh3, q3.1 rfl, hE.ext ((e1.trans e2).trans e3), fun w' M4 t H4 e4 rh4 r4 q4 => ?_⟩
      exact ⟨y, w', M4, Qd, (r2.ext e3).ext e4, r4, rh4, q4, hQ.ext (((e1.trans e2).trans e3).trans e4)⟩
  | _ => exact q3.elim
theorem de_chain {op op' : CmpOp} {od od' : DO2} (ho : DOp X (compareOp op) od) (ho' : DOp X (compareOp op') od') (ha : DE X a da) (hb : DE X b db) (hc : DE X c dc)
    (hm : lastMarks [op, op'] [b, c] = false := by with_unfolding_all rfl) : DE X (.Compare a [op, op'] [b, c] pos) (dChain od od' da db dc) :=
  ⟨fun pn xe W tk => PE.weak (pe_chain (ho pn xe) (ho' pn xe) (ha.run pn xe W tk) (hb.run pn xe W tk) (hc.run pn xe W tk) hm) fun _ _ _ h => lift_chain h⟩
theorem dt_chain {op op' : CmpOp} {od od' : DO2} (ho : DOp X (compareOp op) od) (ho' : DOp X (compareOp op') od') (ha : DE X a da) (hb : DE X b db) (hc : DE X c dc)
    (hm : lastMarks [op, op'] [b, c] = false := by with_unfolding_all rfl) : DT X (.Compare a [op, op'] [b, c] pos) (dB (dChain od od' da db dc)) :=
  ⟨fun pn xe W tk => PT.weak (pt_chain (ho pn xe) (ho' pn xe) (ha.run pn xe W tk) (hb.run pn xe W tk) (hc.run pn xe W tk) hm) fun σ H Q h => lift_chain (lift_b h)⟩
end
end DL

set_option Elab.async false
set_option linter.all false
set_option maxRecDepth 100000
set_option maxHeartbeats 4000000
namespace DL
open PySem PySem.Spec PyProof.Rows L2
open PySem.W (Frag)
variable [TB]

/-! ### dicts with int and text keys -/
def keyOf : D → Option Key
  | .int i => some (.inl i)
  | .str x => some (.inr x)
  | _ => none
section
variable {κ : Type} [DecidableEq κ]
def lookD (kvs : List (κ × D)) (k : κ) : Option D := (kvs.find? fun kv => decide (kv.1 = k)).map (·.2)
def putD (kvs : List (κ × D)) (k : κ) (v : D) : List (κ × D) :=
  if (kvs.any fun kv => decide (kv.1 = k)) = true then kvs.map (fun kv => if kv.1 = k then (kv.1, v) else kv) else kvs ++ [(k, v)]
end
section
variable {K : Frag} {mg : Str → Option Value} {M : HM} {H : Hp}
theorem look_zip {k : Key} : ∀ {kvs : List (Key × D)} {vs : List V}, RVs K mg M H (kvs.map (·.2)) vs →
    (∀ d, lookD kvs k = some d → ∃ v, valV ((kvs.map (·.1)).zip vs) k = some v ∧ RV K mg M H d v) ∧ (lookD kvs k = none → valV ((kvs.map (·.1)).zip vs) k = none)
  | [], vs, r => by cases r; exact ⟨fun d h => (nomatch h), fun _ => rfl⟩
  | p :: kvs, _, r => by
    cases r with
    | @cons _ v _ vs r rs =>
      obtain ⟨h1, h2⟩ := look_zip (k := k) rs
      show (∀ d, lookD (p :: kvs) k = some d → ∃ v', valV ((p.1, v) :: (kvs.map (·.1)).zip vs) k = some v' ∧ RV K mg M H d v') ∧ (lookD (p :: kvs) k = none → valV ((p.1, v) :: (kvs.map (·.1)).zip vs) k = none)
      by_cases e : p.1 = k
      · rw [valV_pos (p := (p.1, v)) e]
        refine ⟨fun d h => ⟨v, rfl, ?_⟩, fun h => ?_⟩
        · simp [lookD, List.find?_cons, e] at h
          subst h; exact r
        · simp [lookD, List.find?_cons, e] at h
      · rw [valV_neg (p := (p.1, v)) e]
        have z : lookD (p :: kvs) k = lookD kvs k := by simp [lookD, List.find?_cons, e]
        rw [z]; exact ⟨h1, h2⟩
theorem any_zip {k : Key} : ∀ {kvs : List (Key × D)} {vs : List V}, RVs K mg M H (kvs.map (·.2)) vs → (((kvs.map (·.1)).zip vs).any fun kv => decide (kv.1 = k)) = kvs.any fun kv => decide (kv.1 = k)
  | [], vs, r => by cases r; rfl
  | p :: kvs, _, r => by
    cases r with
    | @cons _ v0 _ vs r rs =>
      show (decide (p.1 = k) || ((kvs.map (·.1)).zip vs).any fun kv => decide (kv.1 = k)) = _
      rw [List.any_cons, any_zip (k := k) rs]
theorem put_zip {k : Key} {d : D} {v : V} (rd : RV K mg M H d v) {kvs : List (Key × D)} {vs : List V} (r : RVs K mg M H (kvs.map (·.2)) vs) :
    ∃ ws, putK ((kvs.map (·.1)).zip vs) k v = ((putD kvs k d).map (·.1)).zip ws ∧ RVs K mg M H ((putD kvs k d).map (·.2)) ws := by
  unfold putK putD
  rw [any_zip r]
  by_cases c : (kvs.any fun kv => decide (kv.1 = k)) = true
  · rw [if_pos c, if_pos c]
    clear c
    induction kvs generalizing vs with
    | nil => cases r; exact ⟨[], rfl, .nil⟩
    | cons p kvs ih =>
      cases r with
      | @cons _ v0 _ vs r rs =>
        obtain ⟨ws, h1, h2⟩ := ih rs
        by_cases e : p.1 = k
        · refine ⟨v :: ws, ?_, ?_⟩
          · show (if p.1 = k then (p.1, v) else (p.1, v0)) :: ((kvs.map (·.1)).zip vs).map (fun kv => if kv.1 = k then (kv.1, v) else kv) = _
            rw [h1]
            simp [e]
          · show RVs K mg M H (((if p.1 = k then (p.1, d) else p)).2 :: _) _
            rw [if_pos e]
            exact .cons rd h2
        · refine ⟨v0 :: ws, ?_, ?_⟩
          · show (if p.1 = k then (p.1, v) else (p.1, v0)) :: ((kvs.map (·.1)).zip vs).map (fun kv => if kv.1 = k then (kv.1, v) else kv) = _
            rw [h1]
            simp [e]
          · show RVs K mg M H (((if p.1 = k then (p.1, d) else p)).2 :: _) _
            rw [if_neg e]
            exact .cons r h2
  · rw [if_neg c, if_neg c]
    refine ⟨vs ++ [v], ?_, ?_⟩
    · rw [List.map_append, List.zip_append (by rw [List.length_map]; have := r.length; rwa [List.length_map] at this)]
      rfl
    · rw [List.map_append]
      exact r.append (.cons rd .nil)
theorem key_rel {d : D} {v : V} {k : Key} (r : RV K mg M H d v) (h : keyOf d = some k) : v = kV k := by
  cases r <;> cases h <;> rfl
end

/-! ### a[b] -/
def seqOf (M : HM) : D → Option (List D)
  | .tup ds => some ds
  | d => lstOf M d
def dicOf (M : HM) : D → Option (List (Key × D))
  | .ref a => match M a with
    | some (.dK kvs) => some kvs
    | _ => none
  | _ => none
theorem seq_of {K : Frag} {mg : Str → Option Value} {M : HM} {H : Hp} {d : D} {v : V} {ds : List D} (rh : RH K mg M H) (r : RV K mg M H d v) (h : seqOf (strip M) d = some ds) : ∃ a vs, v = .ref a ∧ (SqL K H a vs ∨ SqT K H a vs) ∧ RVs K mg M H ds vs := by
  by_cases t : ∃ ds', d = .tup ds'
  · obtain ⟨ds', rfl⟩ := t
    cases h
    obtain ⟨a, vs, h1, h2, h3⟩ := tup_of r rfl
    exact ⟨a, vs, h1, .inr h2, h3⟩
  · have h' : lstOf (strip M) d = some ds := by
      cases d <;> first | exact h | exact absurd ⟨_, rfl⟩ t
    obtain ⟨a, vs, h1, h2, h3⟩ := lst_of rh r h'
    exact ⟨a, vs, h1, .inl h2, h3⟩
theorem dic_of {K : Frag} {mg : Str → Option Value} {M : HM} {H : Hp} {d : D} {v : V} {kvs : List (Key × D)} (rh : RH K mg M H) (r : RV K mg M H d v) (h : dicOf (strip M) d = some kvs) :
    ∃ a vs, d = .ref a ∧ v = .ref a ∧ M a = some (.dK kvs) ∧ H a = some (.dK ((kvs.map (·.1)).zip vs)) ∧ RVs K mg M H (kvs.map (·.2)) vs := by
  cases r with
  | @ref a =>
    unfold dicOf at h
    dsimp only at h
    split at h
    · rename_i ds' e
      cases h
      obtain ⟨vs, e1, rs⟩ := rh a _ (strip_some e)
      exact ⟨_, _, rfl, rfl, strip_some e, e1, rs⟩
    · cases h
  | _ => cases h
theorem atI_rel {K : Frag} {mg : Str → Option Value} {M : HM} {H : Hp} {ds : List D} {vs : List V} {i : Int} {d : D} (r : RVs K mg M H ds vs) (h : atI ds i = some d) : ∃ v, atI vs i = some v ∧ RV K mg M H d v := by
  unfold atI at h ⊢
  rw [← r.length]
  cases e : ixN ds.length i with
  | none => rw [e] at h; cases h
  | some j =>
    rw [e] at h
    exact r.getD h
/-- what stands at an index, or by a key -/
def ixOf (M : HM) (x y : D) : Option D := match dicOf M x with
  | some kvs => (keyOf y).bind (lookD kvs)
  | none => match y with
    | .int i => (match seqOf M x with
      | some ds => atI ds i
      | none => (match x with
        | .str z => if z.length ≤ 1000000 then (atI z.cps.toList i).map fun c => .str ⟨#[c]⟩ else none
        | _ => none))
    | _ => none
def fIx : DO2 := fun x y M Q => ∃ d, ixOf M x y = some d ∧ Q d M
section
variable {X : Cx} {a b : Expr} {da db : DTE} {pos : Pos}
theorem ix_dict (hu : X.A.units + 1 < cLine) : IxR X (fun x y H Q => ∃ a v, x = .ref a ∧ DGet H a y (some v) ∧ Q v H) := by
  intro value slice pins s σ H x y v u Q I rx ry h hs
  obtain ⟨a, w, rfl, g, q⟩ := h
  cases rx
  exact tail_any (dict_typeIs I g) PySem.F.slot_dict_getitem.lookup (d_getItem hu I g ry fun w' s3 I3 rw' => ⟨w, H, I3, rw', q⟩) hs
theorem ix_D (hu : X.A.units + 1 < cLine) : ∀ pn xe, IxR (X.tr pn xe) (liftO X.K X.mg fIx) := by
  intro pn xe value slice pins s σ H v u v' u' Q I rv ru h hs
  obtain ⟨x, y, M, Qd, rx, ry, rh, ⟨d, h, q⟩, hQ⟩ := h
  unfold ixOf at h
  split at h
  · rename_i kvs e
    obtain ⟨a, vs, e0, rfl, em, eh, rs⟩ := dic_of rh rx e
    cases ek : keyOf y with
    | none => rw [ek] at h; cases h
    | some k =>
      rw [ek] at h
      obtain ⟨w, h1, h2⟩ := (look_zip (k := k) rs).1 d h
      refine ix_dict (X := X.tr pn xe) hu value slice pins s σ H _ _ v' u' Q I rv ru ⟨a, w, rfl, ?_, hQ _ _ _ _ .refl rh h2 q⟩ hs
      rw [key_rel ry ek, ← h1]
      exact DGet.k eh
  · split at h
    · rename_i i
      cases ry
      split at h
      · rename_i ds e
        obtain ⟨a, vs, rfl, hsq, rs⟩ := seq_of rh rx e
        obtain ⟨w, h1, h2⟩ := atI_rel rs h
        have fin := hQ _ _ _ _ .refl rh h2 q
        refine ix_seq (X := X.tr pn xe) value slice pins s σ H _ _ v' u' Q I rv ru ?_ hs
        rcases hsq with hs | hs
        · exact .inl ⟨a, vs, i, w, rfl, rfl, hs, h1, fin⟩
        · exact .inr (.inl ⟨a, vs, i, w, rfl, rfl, hs, h1, fin⟩)
      · split at h
        · rename_i hsq z
          cases rx
          split at h
          · cases ea : atI (Str.cps ‹Str›).toList i with
            | none => rw [ea] at h; cases h
            | some c =>
              rw [ea] at h
              cases h
              exact ix_seq (X := X.tr pn xe) value slice pins s σ H _ _ v' u' Q I rv ru (.inr (.inr ⟨_, i, c, rfl, rfl, le_line (by assumption), ea, hQ _ _ _ _ .refl rh .str q⟩)) hs
          · cases h
        · cases h
    · cases h
theorem de_ix (hu : X.A.units + 1 < cLine) (ha : DE X a da) (hb : DE X b db) (hs : PlainIx b := by intro _ _; rfl) : DE X (.Subscript a b pos) (dOp fIx da db) :=
  ⟨fun pn xe W tk => PE.weak (pe_ix (ix_D hu pn xe) (ha.run pn xe W tk) (hb.run pn xe W tk) hs) fun _ _ _ h => lift_op h⟩
end

/-! ### in -/
def flatD : D → Bool
  | .non => true
  | .bl _ => true
  | .int _ => true
  | .str _ => true
  | _ => false
section
variable {X : Cx}
theorem op_in_dict (hu : X.A.units + 1 < cLine) : OpR X (compareOp .In) (fun x y H Q => ∃ a ov, y = .ref a ∧ DGet H a x ov ∧ Q (.bl ov.isSome) H) := by
  intro pins s σ H x y v u Q I rx ry h
  obtain ⟨a, ov, rfl, g, q⟩ := h
  cases ry
  exact d_in hu I g rx fun s3 I3 => ⟨.bl ov.isSome, H, I3, rfl, q⟩
theorem op_nin_dict (hu : X.A.units + 1 < cLine) : OpR X (compareOp .NotIn) (fun x y H Q => ∃ a ov, y = .ref a ∧ DGet H a x ov ∧ Q (.bl (!ov.isSome)) H) := by
  intro pins s σ H x y v u Q I rx ry h
  obtain ⟨a, ov, rfl, g, q⟩ := h
  cases ry
  exact d_notIn hu I g rx fun s3 I3 => ⟨.bl (!ov.isSome), H, I3, rfl, q⟩
end
def eqF : D → D → Bool
  | .non, .non => true
  | .bl a, .bl b => a == b
  | .bl a, .int j => (if a then 1 else 0) == j
  | .int i, .bl b => i == (if b then 1 else 0)
  | .int i, .int j => i == j
  | .str x, .str y => decide (x = y)
  | _, _ => false
theorem flat_rel {K : Frag} {mg : Str → Option Value} {M : HM} {H : Hp} {d : D} {v : V} (r : RV K mg M H d v) (h : flatD d = true) : flatV v = true := by
  cases r <;> first | rfl | cases h
theorem flats_rel {K : Frag} {mg : Str → Option Value} {M : HM} {H : Hp} : ∀ {ds : List D} {vs : List V}, RVs K mg M H ds vs → ds.all flatD = true → vs.all flatV = true
  | _, _, .nil, _ => rfl
  | _, _, .cons r rs, h => by
    simp only [List.all_cons, Bool.and_eq_true] at h ⊢
    exact ⟨flat_rel r h.1, flats_rel rs h.2⟩
end DL

set_option Elab.async false
set_option linter.all false
set_option maxRecDepth 100000
set_option maxHeartbeats 400000
/-! max, min of a list with a default -/
namespace PySem
namespace DX
open Sem (wp)
section
variable {prog : Program} {w : World} {A : Around} {R : Result → Shared → Prop} {I : Addr} {fp wr : List Addr} {n : Nat} {P : Nat → Value → Prop} {St : Nat → Heap → Prop} {kw : List (Str × Value)}
/-- the walk of max from its second item on, whatever the keywords are -/
theorem maxGo (V : Walks prog w A.in1 I fp wr n P St) (bt : Nat → Nat → Bool) (hc : CmpOf prog w A.in1 .Gt P bt) (S : Addr) (hf : S ∉ fp) :
    ∀ (k j : Nat) (s : Shared) (b : Value) (c : Nat), n - (j + 1) = k → j + 1 ≤ n → St (j + 1) s.heap → P (argBest bt j) b →
    s.heap.get? S = some { cls := .type "list", dict := none, data := .seq #[b, b] c, slots := #[] } →
    (∀ v h' tk, P (argBest bt (n - 1)) v → (∀ d o, d ∉ wr → d ≠ S → s.heap.get? d = some o → h'.get? d = some o) → R (.ok (.ret v)) { s with heap := h', toks := tk }) →
    codeAny (model prog w) A (.builtin "max.loop" ⟨[.ref I, .none, .ref S], kw⟩) R s := by
  have hw : S ∉ wr := fun h => hf (V.sub _ h)
  have nm : (toString "max" ++ toString ".loop" : String) = "max.loop" := by decide
  intro k
  induction k with
  | zero =>
    intro j s b c hk hj st pb hS hR
    have e : j + 1 = n := by omega
    refine codeAny_builtin F.entry_max_loop ?_
    rw [Around.under_plainId F.plain_max_loop _]
    refine wpAny_bind (wpAny_seqItems hS rfl ?_)
    refine wpAny_bind (wpAny_tryCatch (V.done s _ _ (e ▸ st) fun h' tk hk' => ?_))
    have hS' := hk' S _ hw hS
    refine wpAny_bind (wpAny_updateSeq hS' rfl (wpAny_bind (wpAny_letGo (wpAny_pure ?_))))
    exact hR b _ tk (by rw [← e]; exact pb) fun d o h1 h2 q => (Heap.get?_update_other _ _ (Ne.symm h2)).trans (hk' d o h1 q)
  | succ k ih =>
    intro j s b c hk hj st pb hS hR
    have lt : j + 1 < n := by omega
    refine codeAny_builtin F.entry_max_loop ?_
    rw [Around.under_plainId F.plain_max_loop _]
    refine wpAny_bind (wpAny_seqItems hS rfl ?_)
    refine wpAny_bind (wpAny_tryCatch (V.item (j + 1) s _ _ lt st fun v h' tk hP st' hk' => ?_))
    have hS' := hk' S _ hw hS
    refine wpAny_bind (wpAny_pure ?_)
    refine wpAny_bind (wpAny_tryCatch (wpAny_holding (wpAny_bind (hc (j + 1) (argBest bt j) v b _ _ _ hP pb ?_))))
    refine wpAny_bind (wpAny_holding (wpAny_truthy_bool ?_))
    refine wpAny_bind (wpAny_letGo (wpAny_pure ?_))
    cases hb : bt (j + 1) (argBest bt j) with
    | true =>
      simp only [if_true]
      refine wpAny_bind (wpAny_updateSeq hS' rfl (wpAny_bind (wpAny_letGo ?_)))
      rw [nm]
      refine wpAny_pure ⟨plainId_quiet F.plain_max_loop _, ih (j + 1) _ v _ (by omega) lt (V.frame _ _ _ st' fun d hd o e => ?_) (by simp only [argBest, hb, if_true]; exact hP) (Heap.get?_update_self _ hS' rfl) fun v' h2 tk2 hP' hk2 => ?_⟩
      · exact (Heap.get?_update_other _ _ (fun h : S = d => hf (by rw [h]; exact hd))).trans e
      · exact hR v' h2 tk2 hP' fun d o h1 h2 q => hk2 d o h1 h2 ((Heap.get?_update_other _ _ (Ne.symm h2)).trans (hk' d o h1 q))
    | false =>
      simp only [Bool.false_eq_true, if_false]
      refine wpAny_bind (wpAny_letGo ?_)
      rw [nm]
      refine wpAny_pure ⟨plainId_quiet F.plain_max_loop _, ih (j + 1) _ b c (by omega) lt st' (by simp only [argBest, hb, Bool.false_eq_true, if_false]; exact pb) hS' fun v' h2 tk2 hP' hk2 => ?_⟩
      exact hR v' h2 tk2 hP' fun d o h1 h2 q => hk2 d o h1 h2 (hk' d o h1 q)
theorem maxGo0 (V : Walks prog w A.in1 I fp wr n P St) (bt : Nat → Nat → Bool) (hc : CmpOf prog w A.in1 .Gt P bt) (S : Addr) (hf : S ∉ fp) (hn : 0 < n) {s : Shared} {c : Nat} (st : St 0 s.heap)
    (hS : s.heap.get? S = some { cls := .type "list", dict := none, data := .seq #[] c, slots := #[] })
    (hR : ∀ v h' tk, P (argBest bt (n - 1)) v → (∀ d o, d ∉ wr → d ≠ S → s.heap.get? d = some o → h'.get? d = some o) → R (.ok (.ret v)) { s with heap := h', toks := tk }) :
    codeAny (model prog w) A (.builtin "max.loop" ⟨[.ref I, .none, .ref S], kw⟩) R s := by
  have hw : S ∉ wr := fun h => hf (V.sub _ h)
  have nm : (toString "max" ++ toString ".loop" : String) = "max.loop" := by decide
  refine codeAny_builtin F.entry_max_loop ?_
  rw [Around.under_plainId F.plain_max_loop _]
  refine wpAny_bind (wpAny_seqItems hS rfl ?_)
  refine wpAny_bind (wpAny_tryCatch (V.item 0 s _ _ hn st fun v h' tk hP st' hk' => ?_))
  have hS' := hk' S _ hw hS
  refine wpAny_bind (wpAny_pure ?_)
  refine wpAny_bind (wpAny_updateSeq hS' rfl ?_)
  rw [nm]
  refine wpAny_pure ⟨plainId_quiet F.plain_max_loop _, maxGo V bt hc S hf _ 0 _ v _ rfl hn (V.frame _ _ _ st' fun d hd o e => ?_) hP (Heap.get?_update_self _ hS' rfl) fun v' h2 tk2 hP' hk2 => ?_⟩
  · exact (Heap.get?_update_other _ _ (fun h : S = d => hf (by rw [h]; exact hd))).trans e
  · exact hR v' h2 tk2 hP' fun d o h1 h2 q => hk2 d o h1 h2 ((Heap.get?_update_other _ _ (Ne.symm h2)).trans (hk' d o h1 q))
/-- no item: the default -/
theorem maxGoN (V : Walks prog w A.in1 I fp wr 0 P St) (S : Addr) (hf : S ∉ fp) {s : Shared} {c : Nat} {d0 : Value} {x : Str} (st : St 0 s.heap)
    (hS : s.heap.get? S = some { cls := .type "list", dict := none, data := .seq #[] c, slots := #[] })
    (hR : ∀ h' tk, (∀ d o, d ∉ wr → s.heap.get? d = some o → h'.get? d = some o) → R (.ok (.ret d0)) { s with heap := h', toks := tk }) :
    codeAny (model prog w) A (.builtin "max.loop" ⟨[.ref I, .none, .ref S], [(x, d0)]⟩) R s := by
  have hw : S ∉ wr := fun h => hf (V.sub _ h)
  refine codeAny_builtin F.entry_max_loop ?_
  rw [Around.under_plainId F.plain_max_loop _]
  refine wpAny_bind (wpAny_seqItems hS rfl ?_)
  refine wpAny_bind (wpAny_tryCatch (V.done s _ _ st fun h' tk hk' => ?_))
  exact wpAny_bind (wpAny_rule (wpAny_pure (hR h' tk hk')))
end
section
variable {prog : Program} {w : World} {A : Around} {E : Value → Shared → Prop} {s : Shared}
theorem args_maxD (a b : Value) : argsOk "max" ⟨[a], [(Str.ofString "default", b)]⟩ := by unfold argsOk; kernel_rfl
/-- max(xs, default=d), xs a list of ints -/
theorem call_maxD {l : Addr} {xs : Array (Int × Tok)} {d0 : Value} {Q : Value → Shared → Prop} (hh : A.handled = none) (hl : s.heap.IsList l (intItems xs))
    (h0 : xs.size = 0 → ∀ h' tk, (∀ b o, s.heap.get? b = some o → h'.get? b = some o) → Q d0 { s with heap := h', toks := tk })
    (h : 0 < xs.size → ∀ v h' tk, (intItems xs)[argBest (fun i j => decide (numAt xs i > numAt xs j)) (xs.size - 1)]? = some v → (∀ b o, s.heap.get? b = some o → h'.get? b = some o) → Q v { s with heap := h', toks := tk }) :
    wpAny (model prog w) A (call (.builtin "max") [.ref l] [(Str.ofString "default", d0)]) Q E s := by
  have nm : (toString "max" ++ toString ".loop" : String) = "max.loop" := by decide
  refine PyProof.Rows.kmk_tree F.kind_max F.plain_max F.entry_max (args_maxD _ _) ?_
  refine wpAny_bind (wpAny_of_eq (show Builtin.Builtins.bindParams "max" ["key", "default"] 0 ⟨[], [(Str.ofString "default", d0)]⟩ = pure [none, some d0] from rfl) ?_)
  refine wpAny_bind (wpAny_pure ?_)
  refine wpAny_bind (iter_intList hl fun s₂ e st hfp hlI => ?_)
  subst e
  refine wpAny_bind (wpAny_newObj_type ?_)
  have hSf : (s.heap.push { cls := .type "list_iterator", data := .fields #[.ref l, .int 0 0] }).objs.size ∉ [s.heap.objs.size, l] := fun hm => Nat.lt_irrefl _ (hfp _ hm)
  have V := Walks.list (prog := prog) (w := w) (A := A.in1) hh s.heap.objs.size l hlI (intItems xs)
  rw [nm]
  have st' := V.frame 0 _ ((s.heap.push { cls := .type "list_iterator", data := .fields #[.ref l, .int 0 0] }).push { cls := .type "list", data := .seq #[] }) st fun b _ o e => Heap.get?_push_of_some _ e
  by_cases hz : xs.size = 0
  · have hz' : (intItems xs).size = 0 := by simpa [intItems] using hz
    rw [hz'] at V
    refine wpAny_pure ⟨plainId_quiet F.plain_max_loop _, maxGoN V _ hSf st' (Heap.get?_push_size _ rfl) fun h' tk hk => ?_⟩
    exact h0 hz h' tk (old_kept fun b o hb e => hk b o hb (Heap.get?_push_of_some _ e))
  · have hz' : 0 < (intItems xs).size := by simpa [intItems] using Nat.pos_of_ne_zero hz
    refine wpAny_pure ⟨plainId_quiet F.plain_max_loop _, maxGo0 V _ (CmpOf.ints_gt (numAt xs) (fun _ _ => intItems_at)) _ hSf hz' st' (Heap.get?_push_size _ rfl) fun v h' tk hP hk => ?_⟩
    exact h (Nat.pos_of_ne_zero hz) v h' tk (by simpa [intItems] using hP) (old_kept fun b o hb e => hk b o hb (Nat.ne_of_lt (Heap.lt_size e)) (Heap.get?_push_of_some _ e))
end
end DX
end PySem

set_option Elab.async false
set_option linter.all false
set_option maxRecDepth 100000
set_option maxHeartbeats 400000
namespace DL
open PySem PySem.Spec PyProof.Rows L2
open PySem.W (Frag)
variable [TB]

section
variable {X : Cx} {e : Expr} {es : List Expr} {d : DTE} {r : DTA} {pos : Pos}
/-! ### arguments, displays -/
def dNil : DTA := fun _ M Q _ => Q [] M
def dCons (d : DTE) (r : DTA) : DTA := fun σ M Q E => d σ M (fun x M1 => r σ M1 (fun xs M2 => Q (x :: xs) M2) E) E
theorem da_nil : DA X [] dNil := ⟨fun pn xe W tk => PA.weak pa_nil fun σ H Q ⟨σd, M, Qd, Ed, rs, rh, h, hE, hQ⟩ => hQ _ _ _ _ .refl rh .nil h⟩
theorem da_cons (ha : DE X e d) (hr : DA X es r) (hs : starEach (e :: es) X.env = (false, eval e X.env) :: starEach es X.env := by rfl) : DA X (e :: es) (dCons d r) := by
  refine ⟨fun pn xe W tk => PA.weak (pa_cons (X := X.tr pn xe) (ha.run pn xe W tk) (hr.run pn xe W tk) hs) ?_⟩
  rintro σ H Q ⟨σd, M, Qd, Ed, rs, rh, h, hE, hQ⟩
  refine ⟨σd, M, _, Ed, rs, rh, h, hE, fun x M1 v H1 e1 rh1 r1 q1 => ?_⟩
  exact ⟨σd, M1, _, Ed, rs.ext e1, rh1, q1, hE.ext e1, fun xs M2 vs H2 e2 rh2 r2 q2 => hQ _ _ _ _ (e1.trans e2) rh2 (.cons (r1.ext e2) r2) q2⟩
def dTup (r : DTA) : DTE := fun σ M Q E => r σ M (fun xs M1 => xs.length ≤ 1000000 ∧ Q (.tup xs) M1) E
def dLst (r : DTA) : DTE := fun σ M Q E => r σ M (fun xs M1 => xs.length ≤ 1000000 ∧ Q (.lst xs) M1) E
def dLstM (r : DTA) : DTE := fun σ M Q E => r σ M (fun xs M1 => xs.length ≤ 1000000 ∧ ∀ a, M1 a = none → Q (.ref a) (mup M1 a (.lst xs))) E
theorem de_tup {k} (h : DA X es r) : DE X (.Tuple es k pos) (dTup r) := by
  refine ⟨fun pn xe W tk => PE.weak (pe_tup (h.run pn xe W tk)) ?_⟩
  rintro σ H Q ⟨σd, M, Qd, Ed, rs, rh, h, hE, hQ⟩
  refine ⟨σd, M, _, Ed, rs, rh, h, hE, fun xs M1 vs H1 e1 rh1 r1 q1 => ⟨by rw [← r1.length]; exact le_line q1.1, fun p hp => ?_⟩⟩
  exact (hQ.ext e1).tup rh1 hp r1 q1.2
theorem de_lst (h : DA X es r) : DE X (.List es pos) (dLst r) := by
  refine ⟨fun pn xe W tk => PE.weak (pe_lst (h.run pn xe W tk)) ?_⟩
  rintro σ H Q ⟨σd, M, Qd, Ed, rs, rh, h, hE, hQ⟩
  refine ⟨σd, M, _, Ed, rs, rh, h, hE, fun xs M1 vs H1 e1 rh1 r1 q1 => ⟨by rw [← r1.length]; exact le_line q1.1, fun p hp => ?_⟩⟩
  exact (hQ.ext e1).lst rh1 hp r1 q1.2
/-- a new list that will be changed -/
theorem HQ.lstM {K : Frag} {mg : Str → Option Value} {M : HM} {H : Hp} {ds : List D} {vs : List V} {p : Addr} {Qd : DK} {Q : VK} (hQ : HQ K mg M H Qd Q) (rh : RH K mg M H) (hp : H p = none) (r : RVs K mg M H ds vs) (q : Qd (.ref p) (mup (strip M) p (.lst ds))) : Q (.ref p) (upd H p (.lst vs)) := by
  have e : Ext M H (mup M p (.lst ds)) (upd H p (.lst vs)) := Ext.newM hp (rh.free hp) rfl
  exact hQ _ _ _ _ e (rh.newM (u := .lst ds) hp rfl ⟨vs, upd_same, r.ext e⟩) .ref (by rw [strip_mup rfl]; exact q)
theorem de_lstM (h : DA X es r) : DE X (.List es pos) (dLstM r) := by
  refine ⟨fun pn xe W tk => PE.weak (pe_lst (h.run pn xe W tk)) ?_⟩
  rintro σ H Q ⟨σd, M, Qd, Ed, rs, rh, h, hE, hQ⟩
  refine ⟨σd, M, _, Ed, rs, rh, h, hE, fun xs M1 vs H1 e1 rh1 r1 q1 => ⟨by rw [← r1.length]; exact le_line q1.1, fun p hp => ?_⟩⟩
  exact (hQ.ext e1).lstM rh1 hp r1 (q1.2 p (strip_none (rh1.free hp)))

/-! ### built-in calls -/
abbrev DCo := List D → HM → DK → Prop
def liftC (K : Frag) (mg : Str → Option Value) (od : DCo) : List V → Hp → VK → Prop := fun vs H Q => ∃ xs M Qd, RVs K mg M H xs vs ∧ RH K mg M H ∧ od xs (strip M) Qd ∧ HQ K mg M H Qd Q
def DCall (X : Cx) (f : Value) (od : DCo) : Prop := ∀ pn xe, CallR (X.tr pn xe) f (liftC X.K X.mg od)
def dCB (od : DCo) (r : DTA) : DTE := fun σ M Q E => r σ M (fun xs M1 => od xs M1 Q) E
theorem lift_cb {K : Frag} {mg : Str → Option Value} {W : WX} {od : DCo} {σ : L2.St} {H : Hp} {Q : VK} (h : lift K mg W (dCB od r) σ H Q) : tCB (liftC K mg od) (liftA K mg W r) σ H Q := by
  obtain ⟨σd, M, Qd, Ed, rs, rh, h, hE, hQ⟩ := h
  exact ⟨σd, M, _, Ed, rs, rh, h, hE, fun xs M1 vs H1 e1 rh1 r1 q1 => ⟨xs, M1, Qd, r1, rh1, q1, hQ.ext e1⟩⟩
theorem de_callB {od : DCo} {x : Str} {p : Pos} {id : String} (hc : DCall X (.builtin id) od) (hg : Gl X x) (hm : X.mg x = none) (hv : bootBuiltins x = some (.builtin id)) (ha : DA X (e :: es) r) (hn : x ≠ "__name__" := by decide) (hdb : (x == ("__debug__" : Str)) = false := by decide)
    (he : starEach (e :: es) X.env = (false, eval e X.env) :: starEach es X.env := by rfl) (hpl : (backTo pos (starEach es X.env)).any (·.1) = false := by rfl) : DE X (.Call (.Name x p) (e :: es) [] pos) (dCB od r) :=
  ⟨fun pn xe W tk => PE.weak (pe_callB (X := X.tr pn xe) (hc pn xe) hg hm hv (ha.run pn xe W tk) hn hdb he hpl) fun _ _ _ h => lift_cb h⟩
theorem de_callT {od : DCo} {x : Str} {p : Pos} {id : String} (hc : DCall X (.type id) od) (hg : Gl X x) (hm : X.mg x = none) (hv : bootBuiltins x = some (.type id)) (ha : DA X (e :: es) r) (hn : x ≠ "__name__" := by decide) (hdb : (x == ("__debug__" : Str)) = false := by decide)
    (he : starEach (e :: es) X.env = (false, eval e X.env) :: starEach es X.env := by rfl) (hpl : (backTo pos (starEach es X.env)).any (·.1) = false := by rfl) : DE X (.Call (.Name x p) (e :: es) [] pos) (dCB od r) :=
  ⟨fun pn xe W tk => PE.weak (pe_callTy (X := X.tr pn xe) (hc pn xe) hg hm hv (ha.run pn xe W tk) hn hdb he hpl) fun _ _ _ h => lift_cb h⟩
end
theorem RVs.one {K : Frag} {mg : Str → Option Value} {M : HM} {H : Hp} {x : D} {vs : List V} (r : RVs K mg M H [x] vs) : ∃ v, vs = [v] ∧ RV K mg M H x v := by
  cases r with
  | cons r rs => cases rs; exact ⟨_, rfl, r⟩
theorem RVs.two {K : Frag} {mg : Str → Option Value} {M : HM} {H : Hp} {x y : D} {vs : List V} (r : RVs K mg M H [x, y] vs) : ∃ v u, vs = [v, u] ∧ RV K mg M H x v ∧ RV K mg M H y u := by
  cases r with
  | cons r rs =>
    cases rs with
    | cons r2 rs => cases rs; exact ⟨_, _, rfl, r, r2⟩
/-! ### len -/
def lenOf (M : HM) (x : D) : Option Int := match dicOf M x with
  | some kvs => some kvs.length
  | none => match seqOf M x with
    | some ds => some ds.length
    | none => match x with
      | .str z => if z.length ≤ 1000000 then some z.length else none
      | .byt z => if z.size ≤ 1000000 then some z.size else none
      | _ => none
def fLen : DCo := fun xs M Q => match xs with
  | [x] => ∃ n, lenOf M x = some n ∧ Q (.int n) M
  | _ => False
section
variable {X : Cx}
theorem c_len : DCall X (.builtin "len") fLen := by
  intro pn xe pins s σ H vs us Q I rv h
  obtain ⟨xs, M, Qd, rx, rh, h, hQ⟩ := h
  unfold fLen at h
  split at h
  · rename_i x
    obtain ⟨v, rfl, r⟩ := rx.one
    obtain ⟨n, h, q⟩ := h
    have fin : Q (.int n) H := hQ _ _ _ _ .refl rh .int q
    unfold lenOf at h
    split at h
    · rename_i kvs e
      obtain ⟨a, vs, _, rfl, _, eh, rs⟩ := dic_of rh r e
      cases h
      refine call_lenD (X := X.tr pn xe) pins s σ H _ us Q I rv ⟨a, _, rfl, eh, ?_⟩
      have hl := rs.length
      rw [List.length_map] at hl
      rw [List.length_zip, List.length_map, ← hl, Nat.min_self]
      exact fin
    · split at h
      · rename_i ds e
        obtain ⟨a, vs, rfl, hs, rs⟩ := seq_of rh r e
        cases h
        refine call_len_seq (X := X.tr pn xe) pins s σ H _ us Q I rv ⟨a, vs, rfl, hs, ?_⟩
        rw [← rs.length]
        exact fin
      · split at h
        · cases r
          split at h
          · cases h
            exact call_len_str (X := X.tr pn xe) pins s σ H _ us Q I rv ⟨_, rfl, le_line (by assumption), fin⟩
          · cases h
        · cases r
          split at h
          · cases h
            refine call_len (X := X.tr pn xe) pins s σ H _ us Q I rv ⟨_, _, rfl, ?_, fin⟩
            exact ⟨le_line (by assumption), rfl⟩
          · cases h
        · cases h
  · exact h.elim
/-! ### int, str, tuple, list -/
def fInt : DCo := fun xs M Q => match xs with
  | [.int i] => Q (.int i) M
  | [.bl b] => Q (.int (if b then 1 else 0)) M
  | _ => False
theorem c_int : DCall X (.type "int") fInt := by
  intro pn xe pins s σ H vs us Q I rv h
  obtain ⟨xs, M, Qd, rx, rh, h, hQ⟩ := h
  unfold fInt at h
  split at h
  · obtain ⟨v, rfl, r⟩ := rx.one
    cases r
    exact call_int1 (X := X.tr pn xe) pins s σ H _ us Q I rv (.inl ⟨_, rfl, hQ _ _ _ _ .refl rh .int h⟩)
  · obtain ⟨v, rfl, r⟩ := rx.one
    cases r
    exact call_int1 (X := X.tr pn xe) pins s σ H _ us Q I rv (.inr ⟨_, rfl, hQ _ _ _ _ .refl rh .int h⟩)
  · exact h.elim
def fStr : DCo := fun xs M Q => match xs with
  | [.int i] => i.natAbs ≤ 10 ^ 200 ∧ Q (.str (toString i)) M
  | _ => False
theorem log_small {n : Nat} (h : n ≤ 10 ^ 200) : n.log2 < 1920 := by
  have h1 : n < 2 ^ 1000 := Nat.lt_of_le_of_lt h (by decide +kernel)
  exact Nat.lt_of_lt_of_le (PySem.Flt.log2_lt_of (by decide) h1) (by decide)
theorem c_str : DCall X (.type "str") fStr := by
  intro pn xe pins s σ H vs us Q I rv h
  obtain ⟨xs, M, Qd, rx, rh, h, hQ⟩ := h
  unfold fStr at h
  split at h
  · obtain ⟨v, rfl, r⟩ := rx.one
    cases r
    exact call_str_int (X := X.tr pn xe) pins s σ H _ us Q I rv ⟨_, rfl, log_small h.1, hQ _ _ _ _ .refl rh .str h.2⟩
  · exact h.elim
def fTuple : DCo := fun xs M Q => match xs with
  | [x] => ∃ ds, seqOf M x = some ds ∧ Q (.tup ds) M
  | _ => False
theorem c_tuple : DCall X (.type "tuple") fTuple := by
  intro pn xe pins s σ H vs us Q I rv h
  obtain ⟨xs, M, Qd, rx, rh, h, hQ⟩ := h
  unfold fTuple at h
  split at h
  · rename_i x
    obtain ⟨v, rfl, r⟩ := rx.one
    obtain ⟨ds, e, q⟩ := h
    by_cases t : ∃ ds', x = .tup ds'
    · obtain ⟨ds', rfl⟩ := t
      cases e
      have r' := r
      obtain ⟨a, vs, rfl, h2, h3⟩ := tup_of r rfl
      exact call_tuple_of (X := X.tr pn xe) pins s σ H _ us Q I rv ⟨a, vs, rfl, .inr ⟨h2, hQ _ _ _ _ .refl rh r' q⟩⟩
    · have e' : lstOf (strip M) x = some ds := by
        cases x <;> first | exact e | exact absurd ⟨_, rfl⟩ t
      obtain ⟨a, vs, rfl, h2, h3⟩ := lst_of rh r e'
      exact call_tuple_of (X := X.tr pn xe) pins s σ H _ us Q I rv ⟨a, vs, rfl, .inl ⟨h2, fun l hl => hQ.tup rh hl h3 q⟩⟩
  · exact h.elim
def fList : DCo := fun xs M Q => match xs with
  | [x] => ∃ ds, seqOf M x = some ds ∧ Q (.lst ds) M
  | _ => False
def fListM : DCo := fun xs M Q => match xs with
  | [x] => ∃ ds, seqOf M x = some ds ∧ ∀ a, M a = none → Q (.ref a) (mup M a (.lst ds))
  | _ => False
theorem c_list : DCall X (.type "list") fList := by
  intro pn xe pins s σ H vs us Q I rv h
  obtain ⟨xs, M, Qd, rx, rh, h, hQ⟩ := h
  unfold fList at h
  split at h
  · obtain ⟨v, rfl, r⟩ := rx.one
    obtain ⟨ds, e, q⟩ := h
    obtain ⟨a, vs, rfl, hs, rs⟩ := seq_of rh r e
    exact call_list_of (X := X.tr pn xe) pins s σ H _ us Q I rv ⟨a, vs, rfl, hs, fun l hl => hQ.lst rh hl rs q⟩
  · exact h.elim
theorem c_listM : DCall X (.type "list") fListM := by
  intro pn xe pins s σ H vs us Q I rv h
  obtain ⟨xs, M, Qd, rx, rh, h, hQ⟩ := h
  unfold fListM at h
  split at h
  · obtain ⟨v, rfl, r⟩ := rx.one
    obtain ⟨ds, e, q⟩ := h
    obtain ⟨a, vs, rfl, hs, rs⟩ := seq_of rh r e
    exact call_list_of (X := X.tr pn xe) pins s σ H _ us Q I rv ⟨a, vs, rfl, hs, fun l hl => hQ.lstM rh hl rs (q l (strip_none (rh.free hl)))⟩
  · exact h.elim
/-! ### max, min, sum, all, any -/
def fMax2 : DCo := fun xs M Q => match xs with
  | [.int i, .int j] => Q (.int (max i j)) M
  | _ => False
theorem c_max2 (hc : X.calm = true) : DCall X (.builtin "max") fMax2 := by
  intro pn xe pins s σ H vs us Q I rv h
  obtain ⟨xs, M, Qd, rx, rh, h, hQ⟩ := h
  unfold fMax2 at h
  split at h
  · rename_i i j
    obtain ⟨v, u, rfl, r, r2⟩ := rx.two
    cases r; cases r2
    have e : max i j = if j > i then j else i := by omega
    rw [e] at h
    exact call_max2 (X := X.tr pn xe) hc pins s σ H _ us Q I rv ⟨_, _, rfl, hQ _ _ _ _ .refl rh .int h⟩
  · exact h.elim
def fMin2 : DCo := fun xs M Q => match xs with
  | [.int i, .int j] => Q (.int (min i j)) M
  | _ => False
theorem c_min2 (hc : X.calm = true) : DCall X (.builtin "min") fMin2 := by
  intro pn xe pins s σ H vs us Q I rv h
  obtain ⟨xs, M, Qd, rx, rh, h, hQ⟩ := h
  unfold fMin2 at h
  split at h
  · rename_i i j
    obtain ⟨v, u, rfl, r, r2⟩ := rx.two
    cases r; cases r2
    have e : min i j = if j < i then j else i := by omega
    rw [e] at h
    exact call_min2 (X := X.tr pn xe) hc pins s σ H _ us Q I rv ⟨_, _, rfl, hQ _ _ _ _ .refl rh .int h⟩
  · exact h.elim
def fSum : DCo := fun xs M Q => match xs with
  | [x] => ∃ ns : List Int, lstOf M x = some (ns.map .int) ∧ Q (.int ns.sum) M
  | _ => False
theorem c_sum (hc : X.calm = true) : DCall X (.builtin "sum") fSum := by
  intro pn xe pins s σ H vs us Q I rv h
  obtain ⟨xs, M, Qd, rx, rh, h, hQ⟩ := h
  unfold fSum at h
  split at h
  · obtain ⟨v, rfl, r⟩ := rx.one
    obtain ⟨ns, e, q⟩ := h
    obtain ⟨a, vs, rfl, hs, rs⟩ := lst_of rh r e
    rw [rs.ints] at hs
    exact cr_sum (X := X.tr pn xe) hc pins s σ H _ us Q I rv ⟨a, ns, rfl, hs, hQ _ _ _ _ .refl rh .int q⟩
  · exact h.elim
def fAll : DCo := fun xs M Q => match xs with
  | [x] => ∃ ns : List Bool, lstOf M x = some (ns.map .bl) ∧ Q (.bl (ns.all id)) M
  | _ => False
theorem c_all (hc : X.calm = true) : DCall X (.builtin "all") fAll := by
  intro pn xe pins s σ H vs us Q I rv h
  obtain ⟨xs, M, Qd, rx, rh, h, hQ⟩ := h
  unfold fAll at h
  split at h
  · obtain ⟨v, rfl, r⟩ := rx.one
    obtain ⟨ns, e, q⟩ := h
    obtain ⟨a, vs, rfl, hs, rs⟩ := lst_of rh r e
    rw [rs.bls] at hs
    exact cr_all (X := X.tr pn xe) hc pins s σ H _ us Q I rv ⟨a, ns, rfl, hs, hQ _ _ _ _ .refl rh .bl q⟩
  · exact h.elim
def fAny : DCo := fun xs M Q => match xs with
  | [x] => ∃ ns : List Bool, lstOf M x = some (ns.map .bl) ∧ Q (.bl (ns.any id)) M
  | _ => False
theorem c_any (hc : X.calm = true) : DCall X (.builtin "any") fAny := by
  intro pn xe pins s σ H vs us Q I rv h
  obtain ⟨xs, M, Qd, rx, rh, h, hQ⟩ := h
  unfold fAny at h
  split at h
  · obtain ⟨v, rfl, r⟩ := rx.one
    obtain ⟨ns, e, q⟩ := h
    obtain ⟨a, vs, rfl, hs, rs⟩ := lst_of rh r e
    rw [rs.bls] at hs
    exact cr_any (X := X.tr pn xe) hc pins s σ H _ us Q I rv ⟨a, ns, rfl, hs, hQ _ _ _ _ .refl rh .bl q⟩
  · exact h.elim
end
/-! ### isinstance with built-in types -/
def tyOf (M : HM) : D → Option String
  | .non => some "NoneType"
  | .bl _ => some "bool"
  | .int _ => some "int"
  | .str _ => some "str"
  | .byt _ => some "bytes"
  | .tup _ => some "tuple"
  | .lst _ => some "list"
  | .lsf _ => some "list"
  | .ref a => match M a with
    | some (.lst _) => some "list"
    | some (.dK _) => some "dict"
    | _ => none
  | _ => none
theorem ty_of {K : Frag} {mg : Str → Option Value} {M : HM} {H : Hp} {d : D} {v : V} {t : String} (rh : RH K mg M H) (r : RV K mg M H d v) (h : tyOf (strip M) d = some t) : TyX K H v (.type t) := by
  cases r with
  | non => cases h; exact .base .non
  | bl => cases h; exact .base (.bl _)
  | int => cases h; exact .base (.int _)
  | str => cases h; exact .base (.str _)
  | byt => cases h; exact .byt _
  | ty => cases h
  | exc0 => cases h
  | exc1 => cases h
  | exp0 => cases h
  | exp1 => cases h
  | obj => cases h
  | tup e rs =>
    cases h
    rcases e with ⟨_, e | ⟨o, e⟩⟩ | ⟨o, its, n, e, c, _⟩
    · exact .base (.tup e)
    · exact .fTuple e
    · exact .kTuple e c
  | lst hm e rs => cases h; exact .base (.lst e)
  | lsf e rs =>
    cases h
    rcases e with ⟨_, e | ⟨o, e⟩⟩ | ⟨o, its, n, e, c, _⟩
    · exact .base (.lst e)
    · exact .base (.frz e)
    · exact .kList e c
  | @ref a =>
    unfold tyOf at h
    dsimp only at h
    split at h
    · rename_i ds' e
      cases h
      obtain ⟨vs, e1, rs⟩ := rh a _ (strip_some e)
      exact .base (.lst e1)
    · rename_i ds' e
      cases h
      obtain ⟨vs, e1, rs⟩ := rh a _ (strip_some e)
      exact .base (.dK e1)
    · cases h
def tyNames : List String := ["NoneType", "bool", "int", "str", "bytes", "tuple", "list", "dict"]
def isB (t n : String) : Bool := t == n || (t == "bool" && n == "int")
theorem kitB_is : ∀ t ∈ tyNames, ∀ n ∈ tyNames, kitB t n = some (isB t n) := by decide +kernel
theorem tyOf_mem {M : HM} {d : D} {t : String} (h : tyOf M d = some t) : t ∈ tyNames := by
  unfold tyOf at h
  split at h <;> first | (cases h; done) | (cases h; decide) | (split at h <;> first | (cases h; done) | (cases h; decide))
def fIsi : DCo := fun xs M Q => match xs with
  | [x, .ty n] => ∃ t, tyOf M x = some t ∧ n ∈ tyNames ∧ Q (.bl (isB t n)) M
  | _ => False
section
variable {X : Cx}
theorem c_isi : DCall X (.builtin "isinstance") fIsi := by
  intro pn xe pins s σ H vs us Q I rv h
  obtain ⟨xs, M, Qd, rx, rh, h, hQ⟩ := h
  unfold fIsi at h
  split at h
  · obtain ⟨v, u, rfl, r, r2⟩ := rx.two
    cases r2
    obtain ⟨t, e, hn, q⟩ := h
    exact call_isi (X := X.tr pn xe) pins s σ H _ us Q I rv ⟨_, _, .type t, .type _, _, rfl, .ty _, ty_of rh r e, kit_ty (kitB_is t (tyOf_mem e) _ hn), hQ _ _ _ _ .refl rh .bl q⟩
  · exact h.elim
end
end DL

set_option Elab.async false
set_option linter.all false
set_option maxRecDepth 100000
set_option maxHeartbeats 400000
namespace DL
open PySem PySem.Spec PyProof.Rows L2
open PySem.W (Frag)
variable [TB]

/-! ### keywords; max(xs, default=d) -/
structure DKs (X : Cx) (kws : List Keyword) (d : DTA) : Prop where
  run : ∀ (pn : List (Addr × Obj)) (xe : Value → Shared → Prop) (W : WX), Tk X pn xe W → PK (X.tr pn xe) kws (liftA X.K X.mg W d)
theorem PK.weak {X : Cx} {e : List Keyword} {t t' : TA} (h : PK X e t) (k : ∀ σ H Q, t' σ H Q → t σ H Q) : PK X e t' := ⟨fun pos pins s σ H Q I q => h.run pos pins s σ H Q I (k σ H Q q)⟩
section
variable {X : Cx} {e : Expr} {es : List Expr} {d : DTE} {r rk : DTA} {pos kpos : Pos} {kws : List Keyword} {nm : Option Str}
theorem dk_nil : DKs X [] dNil := ⟨fun pn xe W tk => PK.weak pk_nil fun σ H Q ⟨σd, M, Qd, Ed, rs, rh, h, hE, hQ⟩ => hQ _ _ _ _ .refl rh .nil h⟩
theorem dk_cons (ha : DE X e d) (hr : DKs X kws r) : DKs X (⟨nm, e, kpos⟩ :: kws) (dCons d r) := by
  refine ⟨fun pn xe W tk => PK.weak (pk_cons (X := X.tr pn xe) (ha.run pn xe W tk) (hr.run pn xe W tk)) ?_⟩
  rintro σ H Q ⟨σd, M, Qd, Ed, rs, rh, h, hE, hQ⟩
  refine ⟨σd, M, _, Ed, rs, rh, h, hE, fun x M1 v H1 e1 rh1 r1 q1 => ?_⟩
  exact ⟨σd, M1, _, Ed, rs.ext e1, rh1, q1, hE.ext e1, fun xs M2 vs H2 e2 rh2 r2 q2 => hQ _ _ _ _ (e1.trans e2) rh2 (.cons (r1.ext e2) r2) q2⟩
abbrev DCk := List D → List D → HM → DK → Prop
def liftCK (K : Frag) (mg : Str → Option Value) (od : DCk) : List V → List V → Hp → VK → Prop := fun vs ws H Q => ∃ xs zs M Qd, RVs K mg M H xs vs ∧ RVs K mg M H zs ws ∧ RH K mg M H ∧ od xs zs (strip M) Qd ∧ HQ K mg M H Qd Q
def DCallK (X : Cx) (f : Value) (ks : List Str) (od : DCk) : Prop := ∀ pn xe, CallRK (X.tr pn xe) f ks (liftCK X.K X.mg od)
def dCBK (od : DCk) (r rk : DTA) : DTE := fun σ M Q E => r σ M (fun xs M1 => rk σ M1 (fun zs M2 => od xs zs M2 Q) E) E
theorem de_callBK {od : DCk} {x : Str} {p : Pos} {id : String} {ks : List Str} (hc : DCallK X (.builtin id) ks od) (hg : Gl X x) (hm : X.mg x = none) (hv : bootBuiltins x = some (.builtin id)) (ha : DA X (e :: es) r) (hk : DKs X kws rk)
    (hn : x ≠ "__name__" := by decide) (hdb : (x == ("__debug__" : Str)) = false := by decide)
    (he : backTo pos (starEach (e :: es) X.env) = (false, eval e X.env) :: backTo pos (starEach es X.env) := by rfl) (hpl : (backTo pos (starEach (e :: es) X.env)).any (·.1) = false := by rfl)
    (hall : (backToKw pos (keywordEach kws X.env)).all (·.1.isSome) = true := by rfl) (hnone : (backToKw pos (keywordEach kws X.env)).any (·.1.isNone) = false := by rfl) (hks : (backToKw pos (keywordEach kws X.env)).filterMap (·.1) = ks := by rfl) :
    DE X (.Call (.Name x p) (e :: es) kws pos) (dCBK od r rk) := by
  refine ⟨fun pn xe W tk => PE.weak (pe_callBK (X := X.tr pn xe) (hc pn xe) hg hm hv (ha.run pn xe W tk) (hk.run pn xe W tk) hn hdb he hpl hall hnone hks) ?_⟩
  rintro σ H Q ⟨σd, M, Qd, Ed, rs, rh, h, hE, hQ⟩
  refine ⟨σd, M, _, Ed, rs, rh, h, hE, fun xs M1 vs H1 e1 rh1 r1 q1 => ?_⟩
  exact ⟨σd, M1, _, Ed, rs.ext e1, rh1, q1, hE.ext e1, fun zs M2 ws H2 e2 rh2 r2 q2 => ⟨xs, zs, M2, Qd, r1.ext e2, r2, rh2, q2, (hQ.ext e1).ext e2⟩⟩
def fMaxD : DCk := fun xs zs M Q => match xs, zs with
  | [x], [d] => ∃ ns : List Int, lstOf M x = some (ns.map .int) ∧ (ns = [] → Q d M) ∧ ∀ m, m ∈ ns → (∀ y ∈ ns, y ≤ m) → Q (.int m) M
  | _, _ => False
theorem c_maxD (hc : X.calm = true) : DCallK X (.builtin "max") ["default"] fMaxD := by
  intro pn xe pins s σ H vs ws us zs Q I rv rz h
  obtain ⟨xs, ds, M, Qd, rx, rd, rh, h, hQ⟩ := h
  unfold fMaxD at h
  split at h
  · obtain ⟨v, rfl, r⟩ := rx.one
    obtain ⟨w, rfl, r2⟩ := rd.one
    obtain ⟨ns, e, q0, q1⟩ := h
    obtain ⟨a, vs, rfl, hs, rs⟩ := lst_of rh r e
    rw [rs.ints] at hs
    obtain ⟨u, rfl, ru⟩ := rv.one
    obtain ⟨z, rfl, rz'⟩ := rz.one
    cases ru
    obtain ⟨its, rl, pl, hz⟩ := I.list hs
    have hi := rl.ints
    obtain ⟨ys, ey⟩ := hi.allInts.items
    have hn : numsOf (intItems ys).toList = ns := by rw [← ey]; exact hi.numsOf
    rw [nums_intItems] at hn
    have hl : s.heap.IsList a (intItems ys) := by rw [← ey]; exact pl.isList
    refine DX.call_maxD (I.ok.hd hc) hl (fun h0 h' tk hk => ?_) fun h0 v' h' tk hv hk => ?_
    · have en : ns = [] := by
        rw [← hn]
        exact List.eq_nil_of_length_eq_zero (by simpa using h0)
      exact ⟨w, H, I.kept hk, rz', hQ _ _ _ _ .refl rh r2 (q0 en)⟩
    · obtain ⟨t, rfl⟩ := intItems_at hv
      obtain ⟨h1, h2⟩ := argBest_gt (numAt ys) (ys.size - 1)
      refine ⟨.int _, H, I.kept hk, ⟨_, rfl⟩, hQ _ _ _ _ .refl rh .int (q1 _ ?_ fun y hy => ?_)⟩
      · rw [← hn, numAt_eq]; exact PySem.getD_mem (by rw [List.length_map, Array.length_toList]; omega)
      · rw [← hn] at hy
        obtain ⟨j, hj, rfl⟩ := mem_getD hy
        rw [List.length_map, Array.length_toList] at hj
        rw [← numAt_eq]; exact h2 j (by omega)
  · exact h.elim
end

/-! ### slices -/
abbrev DTO := DSt → HM → (Option Int → HM → Prop) → XDK → Prop
def HQO (K : Frag) (mg : Str → Option Value) (M : HM) (H : Hp) (Qd : Option Int → HM → Prop) (Q : Option Int → Hp → Prop) : Prop :=
  ∀ b M' H', Ext M H M' H' → RH K mg M' H' → Qd b (strip M') → Q b H'
def liftP (K : Frag) (mg : Str → Option Value) (W : WX) (d : DTO) : TO := fun σ H Q =>
  ∃ σd M Qd Ed, RS K mg M H σd σ ∧ RH K mg M H ∧ d σd (strip M) Qd Ed ∧ HE K mg W M H σ Ed ∧ HQO K mg M H Qd Q
structure DPt (X : Cx) (e : Option Expr) (d : DTO) : Prop where
  run : ∀ (pn : List (Addr × Obj)) (xe : Value → Shared → Prop) (W : WX), Tk X pn xe W → PO (X.tr pn xe) e (liftP X.K X.mg W d)
theorem PO.weak {X : Cx} {e : Option Expr} {t t' : TO} (h : PO X e t) (k : ∀ σ H Q, t' σ H Q → t σ H Q) : PO X e t' := ⟨fun pins s σ H Q I q => h.run pins s σ H Q I (k σ H Q q)⟩
def dNoPart : DTO := fun _ M Q _ => Q none M
def dPart (d : DTE) : DTO := fun σ M Q E => d σ M (fun x M1 => match x with
  | .int i => Q (some i) M1
  | _ => False) E
/-- the items of xs[lo:hi] -/
def cutG {α : Type} (xs : List α) (lo hi : Option Int) : List α := (xs.drop (HT.sIx xs.length 0 lo)).take (HT.sIx xs.length xs.length hi - HT.sIx xs.length 0 lo)
def fSl (x : D) (lo hi : Option Int) (M : HM) (Q : DK) : Prop := match x with
  | .tup ds => Q (.tup (cutG ds lo hi)) M
  | .str z => z.length ≤ 1000000 ∧ Q (.str (cutS z lo hi)) M
  | x => match lstOf M x with
    | some ds => Q (.lst (cutG ds lo hi)) M
    | none => False
def dSl (d : DTE) (dl dh : DTO) : DTE := fun σ M Q E => d σ M (fun x M1 => dl σ M1 (fun lo M2 => dh σ M2 (fun hi M3 => fSl x lo hi M3 Q) E) E) E
theorem cut_rel {K : Frag} {mg : Str → Option Value} {M : HM} {H : Hp} {ds : List D} {vs : List V} (r : RVs K mg M H ds vs) (lo hi : Option Int) : RVs K mg M H (cutG ds lo hi) (cutV vs lo hi) := by
  unfold cutG cutV
  rw [← r.length]
  exact (r.drop _).take _
theorem cutG_all {α : Type} {xs : List α} {lo hi : Option Int} (h : HT.sIx xs.length 0 lo = 0 ∧ HT.sIx xs.length xs.length hi = xs.length) : cutG xs lo hi = xs := by
  unfold cutG
  rw [h.1, h.2]
  simp
section
variable {X : Cx} {e : Expr} {d : DTE} {dl dh : DTO} {pos p2 : Pos} {lo hi : Option Expr}
theorem do_none : DPt X none dNoPart := ⟨fun pn xe W tk => PO.weak po_none fun σ H Q ⟨σd, M, Qd, Ed, rs, rh, h, hE, hQ⟩ => hQ _ _ _ .refl rh h⟩
theorem do_some (h : DE X e d) : DPt X (some e) (dPart d) := by
  refine ⟨fun pn xe W tk => PO.weak (po_some (h.run pn xe W tk)) ?_⟩
  rintro σ H Q ⟨σd, M, Qd, Ed, rs, rh, h, hE, hQ⟩
  refine ⟨σd, M, _, Ed, rs, rh, h, hE, fun x M1 v H1 e1 rh1 r1 q1 => ?_⟩
  dsimp only at q1
  split at q1
  · cases r1
    exact ⟨_, rfl, hQ _ _ _ e1 rh1 q1⟩
  · exact q1.elim
theorem sl_D : ∀ pn xe, SlR (X.tr pn xe) (fun v lo hi H Q => ∃ x M Qd, RV X.K X.mg M H x v ∧ RH X.K X.mg M H ∧ fSl x lo hi (strip M) Qd ∧ HQ X.K X.mg M H Qd Q) := by
  intro pn xe pins s σ H v v' vl vu lo hi sl Q I rv hs pl pu h
  obtain ⟨x, M, Qd, rx, rh, h, hQ⟩ := h
  unfold fSl at h
  split at h
  · rename_i ds
    have r' := rx
    obtain ⟨a, vs, rfl, h2, h3⟩ := tup_of rx rfl
    refine sl_tupA (X := X.tr pn xe) pins s σ H _ v' vl vu lo hi sl Q I rv hs pl pu ⟨a, vs, rfl, h2, fun hw => ?_, fun _ p hp => hQ.tup rh hp (cut_rel h3 lo hi) h⟩
    rw [← h3.length] at hw
    rw [cutG_all hw] at h
    exact hQ _ _ _ _ .refl rh r' h
  · cases rx
    exact sl_str (X := X.tr pn xe) pins s σ H _ v' vl vu lo hi sl Q I rv hs pl pu ⟨_, rfl, le_line h.1, hQ _ _ _ _ .refl rh .str h.2⟩
  · split at h
    · rename_i ds e
      obtain ⟨a, vs, rfl, h2, h3⟩ := lst_of rh rx e
      exact sl_list (X := X.tr pn xe) pins s σ H _ v' vl vu lo hi sl Q I rv hs pl pu ⟨a, vs, rfl, h2, fun p hp => hQ.lst rh hp (cut_rel h3 lo hi) h⟩
    · exact h.elim
theorem de_slice (he : DE X e d) (hl : DPt X lo dl) (hu : DPt X hi dh) : DE X (.Subscript e (.Slice lo hi none p2) pos) (dSl d dl dh) := by
  refine ⟨fun pn xe W tk => PE.weak (pe_slice (sl_D pn xe) (he.run pn xe W tk) (hl.run pn xe W tk) (hu.run pn xe W tk)) ?_⟩
  rintro σ H Q ⟨σd, M, Qd, Ed, rs, rh, h, hE, hQ⟩
  refine ⟨σd, M, _, Ed, rs, rh, h, hE, fun x M1 v H1 e1 rh1 r1 q1 => ?_⟩
  refine ⟨σd, M1, _, Ed, rs.ext e1, rh1, q1, hE.ext e1, fun lo M2 H2 e2 rh2 q2 => ?_⟩
  refine ⟨σd, M2, _, Ed, (rs.ext e1).ext e2, rh2, q2, (hE.ext e1).ext e2, fun hi M3 H3 e3 rh3 q3 => ?_⟩
  exact ⟨x, M3, Qd, (r1.ext e2).ext e3, rh3, q3, ((hQ.ext e1).ext e2).ext e3⟩
end

/-! ### in -/
theorem eqv_flat {x y : D} {v u : V} (hx : flatD x = true) (hy : flatD y = true) {K : Frag} {mg : Str → Option Value} {M : HM} {H : Hp} (rx : RV K mg M H x v) (ry : RV K mg M H y u) : eqV v u = eqD x y := by
  cases rx <;> first | (cases hx; done) | skip
  all_goals (cases ry <;> first | (cases hy; done) | rfl)
theorem inV_flat {K : Frag} {mg : Str → Option Value} {M : HM} {H : Hp} {x : D} {v : V} (hx : flatD x = true) (rx : RV K mg M H x v) : ∀ {ds : List D} {vs : List V}, ds.all flatD = true → RVs K mg M H ds vs → inV v vs = ds.any fun d => eqD d x
  | _, _, _, .nil => rfl
  | _, _, h, .cons r rs => by
    simp only [List.all_cons, Bool.and_eq_true] at h
    show (eqV _ v || inV v _) = _
    rw [List.any_cons, inV_flat hx rx h.2 rs, eqv_flat h.1 hx r rx]
theorem any_py {x : D} : ∀ ds : List D, (toPys ds).any (fun z => PyData.eqv z (toPy x)) = ds.any fun d => eqD d x
  | [] => rfl
  | d :: ds => by
    show (_ || _) = (_ || _)
    rw [any_py ds]; rfl
def inD (M : HM) (x y : D) : Option Bool := match dicOf M y with
  | some kvs => (keyOf x).map fun k => (lookD kvs k).isSome
  | none => match seqOf M y with
    | some ds => if flatD x = true ∧ ds.all flatD = true then some (ds.any fun d => eqD d x)
      else if okD x = true ∧ okD (.lst ds) = true ∧ (lstOf M y).isSome = true then some (ds.any fun d => eqD d x) else none
    | none => match x, y with
      | .str i, .str j => some (!(Builtin.Str.occurrences j i 0 j.length 1).isEmpty)
      | _, _ => none
def fIn : DO2 := fun x y M Q => ∃ b, inD M x y = some b ∧ Q (.bl b) M
def fNin : DO2 := fun x y M Q => ∃ b, inD M x y = some b ∧ Q (.bl (!b)) M
section
variable {X : Cx}
theorem op_fIn (hu : X.A.units + 65 < cLine) : DOp X (compareOp .In) fIn := by
  intro pn xe pins s σ H v u v' u' Q I rv ru h
  obtain ⟨x, y, M, Qd, rx, ry, rh, ⟨b, h, q⟩, hQ⟩ := h
  have fin : Q (.bl b) H := hQ _ _ _ _ .refl rh .bl q
  unfold inD at h
  split at h
  · rename_i kvs e
    obtain ⟨a, vs, _, rfl, _, eh, rs⟩ := dic_of rh ry e
    cases ek : keyOf x with
    | none => rw [ek] at h; cases h
    | some k =>
      rw [ek] at h
      cases h
      dsimp only at fin
      refine op_in_dict (X := X.tr pn xe) (by show X.A.units + 1 < cLine; omega) pins s σ H _ _ v' u' Q I rv ru ⟨a, valV ((kvs.map (·.1)).zip vs) k, rfl, ?_, ?_⟩
      · rw [key_rel rx ek]; exact DGet.k eh
      · obtain ⟨h1, h2⟩ := look_zip (k := k) rs
        cases el : lookD kvs k with
        | none => rw [h2 el]; rw [el] at fin; exact fin
        | some d => obtain ⟨w, e1, _⟩ := h1 d el; rw [e1]; rw [el] at fin; exact fin
  · split at h
    · rename_i ds e
      obtain ⟨a, vs, rfl, hs, rs⟩ := seq_of rh ry e
      split at h
      · rename_i hf
        cases h
        refine op_in_seq (X := X.tr pn xe) pins s σ H _ _ v' u' Q I rv ru ⟨a, vs, rfl, hs, flat_rel rx hf.1, flats_rel rs hf.2, ?_⟩
        rw [inV_flat hf.1 rx hf.2 rs]
        exact fin
      · split at h
        · rename_i hf
          cases h
          refine op_inD (X := X.tr pn xe) hu pins s σ H _ _ v' u' Q I rv ru ⟨toPy x, toPys ds, dp_of (isD_of hf.1) rx, ?_, shaped_of hf.1, shaped_of hf.2.1, ?_⟩
          · rcases hs with hs | hs
            · exact .lst hs (dps_of (isD_of hf.2.1) rs)
            · cases el : lstOf (strip M) y with
              | none => rw [el] at hf; exact absurd hf.2.2 (by simp)
              | some ds' =>
                obtain ⟨a', vs', ea, hs', rs'⟩ := lst_of rh ry el
                cases ea
                have ed : ds' = ds := by
                  cases y <;> first | (cases el; done) | (have z := e; unfold seqOf at z; dsimp only at z; rw [el] at z; exact Option.some.inj z)
                subst ed
                exact .lst hs' (dps_of (isD_of hf.2.1) rs')
          · rw [any_py]; exact fin
        · cases h
    · split at h
      · cases h
        cases rx
        cases ry
        exact op_in_str (X := X.tr pn xe) pins s σ H _ _ v' u' Q I rv ru ⟨_, _, rfl, rfl, fin⟩
      · cases h
theorem op_fNin (hu : X.A.units + 65 < cLine) : DOp X (compareOp .NotIn) fNin := by
  intro pn xe pins s σ H v u v' u' Q I rv ru h
  obtain ⟨x, y, M, Qd, rx, ry, rh, ⟨b, h, q⟩, hQ⟩ := h
  have fin : Q (.bl (!b)) H := hQ _ _ _ _ .refl rh .bl q
  unfold inD at h
  split at h
  · rename_i kvs e
    obtain ⟨a, vs, _, rfl, _, eh, rs⟩ := dic_of rh ry e
    cases ek : keyOf x with
    | none => rw [ek] at h; cases h
    | some k =>
      rw [ek] at h
      cases h
      dsimp only at fin
      refine op_nin_dict (X := X.tr pn xe) (by show X.A.units + 1 < cLine; omega) pins s σ H _ _ v' u' Q I rv ru ⟨a, valV ((kvs.map (·.1)).zip vs) k, rfl, ?_, ?_⟩
      · rw [key_rel rx ek]; exact DGet.k eh
      · obtain ⟨h1, h2⟩ := look_zip (k := k) rs
        cases el : lookD kvs k with
        | none => rw [h2 el]; rw [el] at fin; exact fin
        | some d => obtain ⟨w, e1, _⟩ := h1 d el; rw [e1]; rw [el] at fin; exact fin
  · split at h
    · rename_i ds e
      obtain ⟨a, vs, rfl, hs, rs⟩ := seq_of rh ry e
      split at h
      · rename_i hf
        cases h
        refine op_notIn_seq (X := X.tr pn xe) pins s σ H _ _ v' u' Q I rv ru ⟨a, vs, rfl, hs, flat_rel rx hf.1, flats_rel rs hf.2, ?_⟩
        rw [inV_flat hf.1 rx hf.2 rs]
        exact fin
      · split at h
        · rename_i hf
          cases h
          refine op_notInD (X := X.tr pn xe) hu pins s σ H _ _ v' u' Q I rv ru ⟨toPy x, toPys ds, dp_of (isD_of hf.1) rx, ?_, shaped_of hf.1, shaped_of hf.2.1, ?_⟩
          · rcases hs with hs | hs
            · exact .lst hs (dps_of (isD_of hf.2.1) rs)
            · cases el : lstOf (strip M) y with
              | none => rw [el] at hf; exact absurd hf.2.2 (by simp)
              | some ds' =>
                obtain ⟨a', vs', ea, hs', rs'⟩ := lst_of rh ry el
                cases ea
                have ed : ds' = ds := by
                  cases y <;> first | (cases el; done) | (have z := e; unfold seqOf at z; dsimp only at z; rw [el] at z; exact Option.some.inj z)
                subst ed
                exact .lst hs' (dps_of (isD_of hf.2.1) rs')
          · rw [any_py]; exact fin
        · cases h
    · split at h
      · cases h
        cases rx
        cases ry
        exact op_notIn_str (X := X.tr pn xe) pins s σ H _ _ v' u' Q I rv ru ⟨_, _, rfl, rfl, fin⟩
      · cases h
end
end DL

set_option Elab.async false
set_option linter.all false
set_option maxRecDepth 100000
set_option maxHeartbeats 400000
namespace DL
open PySem PySem.Spec PyProof.Rows L2
open PySem.W (Frag)
variable [TB]

/-! ### statements -/
structure DEnds where
  nx : DSt → HM → Prop
  rt : DK
  ex : XD → DSt → HM → Prop := fun _ _ _ => False
  bk : DSt → HM → Prop := fun _ _ => False
  ct : DSt → HM → Prop := fun _ _ => False
abbrev DTS := DEnds → DSt → HM → Prop
def HN (K : Frag) (mg : Str → Option Value) (M : HM) (H : Hp) (Nd : DSt → HM → Prop) (N : L2.St → Hp → Prop) : Prop :=
  ∀ σd' M' σ' H', Ext M H M' H' → RH K mg M' H' → RS K mg M' H' σd' σ' → Nd σd' (strip M') → N σ' H'
def HX (K : Frag) (mg : Str → Option Value) (W : WX) (M : HM) (H : Hp) (Ed : XD → DSt → HM → Prop) : Prop :=
  ∀ x σd' M' σ' H' cls dd, Ext M H M' H' → RH K mg M' H' → RS K mg M' H' σd' σ' → RX K mg M' H' x cls dd → Ed x σd' (strip M') → W cls dd σ' H'
theorem HN.ext {K : Frag} {mg : Str → Option Value} {M M1 : HM} {H H1 : Hp} {Nd : DSt → HM → Prop} {N : L2.St → Hp → Prop} (e : Ext M H M1 H1) (h : HN K mg M H Nd N) : HN K mg M1 H1 Nd N := fun a b c d e' => h a b c d (e.trans e')
theorem HX.ext {K : Frag} {mg : Str → Option Value} {W : WX} {M M1 : HM} {H H1 : Hp} {Ed : XD → DSt → HM → Prop} (e : Ext M H M1 H1) (h : HX K mg W M H Ed) : HX K mg W M1 H1 Ed := fun x a b c d f g e' => h x a b c d f g (e.trans e')
theorem HX.he {K : Frag} {mg : Str → Option Value} {W : WX} {M : HM} {H : Hp} {Ed : XD → DSt → HM → Prop} {σd : DSt} {σ : L2.St} (h : HX K mg W M H Ed) (rs : RS K mg M H σd σ) : HE K mg W M H σ (fun x M1 => Ed x σd M1) :=
  fun x M' H' cls dd e rh rx q => h x σd M' σ H' cls dd e rh (rs.ext e) rx q
/-- all that is wanted behind, at once -/
structure HD (K : Frag) (mg : Str → Option Value) (W : WX) (M : HM) (H : Hp) (Dd : DEnds) (D : Ends) : Prop where
  nx : HN K mg M H Dd.nx D.nx
  rt : HQ K mg M H Dd.rt D.rt
  bk : HN K mg M H Dd.bk D.bk
  ct : HN K mg M H Dd.ct D.ct
  ex : HX K mg W M H Dd.ex
theorem HD.ext {K : Frag} {mg : Str → Option Value} {W : WX} {M M1 : HM} {H H1 : Hp} {Dd : DEnds} {D : Ends} (e : Ext M H M1 H1) (h : HD K mg W M H Dd D) : HD K mg W M1 H1 Dd D := ⟨h.nx.ext e, h.rt.ext e, h.bk.ext e, h.ct.ext e, h.ex.ext e⟩
def liftS (K : Frag) (mg : Str → Option Value) (W : WX) (d : DTS) : TS := fun D σ H => ∃ σd M Dd, RS K mg M H σd σ ∧ RH K mg M H ∧ d Dd σd (strip M) ∧ HD K mg W M H Dd D
structure DS (X : Cx) (st : Stmt) (d : DTS) : Prop where
  run : ∀ (pn : List (Addr × Obj)) (xe : Value → Shared → Prop) (W : WX), Tk X pn xe W → PassesOwn (model X.prog X.w) X.A X.env xe → PS (X.tr pn xe) st (liftS X.K X.mg W d)
structure DSs (X : Cx) (st : List Stmt) (d : DTS) : Prop where
  run : ∀ (pn : List (Addr × Obj)) (xe : Value → Shared → Prop) (W : WX), Tk X pn xe W → PassesOwn (model X.prog X.w) X.A X.env xe → PSs (X.tr pn xe) st (liftS X.K X.mg W d)
theorem PS.weak {X : Cx} {e : Stmt} {t t' : TS} (h : PS X e t) (k : ∀ σ H Q, t' Q σ H → t Q σ H) : PS X e t' := ⟨fun pins s σ H Q I q => h.run pins s σ H Q I (k σ H Q q)⟩
theorem PSs.weak {X : Cx} {e : List Stmt} {t t' : TS} (h : PSs X e t) (k : ∀ σ H Q, t' Q σ H → t Q σ H) : PSs X e t' := ⟨fun pins s σ H Q I q => h.run pins s σ H Q I (k σ H Q q)⟩

section
variable {X : Cx} {st : Stmt} {rest : List Stmt} {t u : DTS} {e : Expr} {d : DTE} {pos : Pos}
def dNext : DTS := fun D σ M => D.nx σ M
def dSeq (t u : DTS) : DTS := fun D σ M => t { D with nx := u D } σ M
theorem dss_nil : DSs X [] dNext := ⟨fun pn xe W tk po => PSs.weak pss_nil fun σ H Q ⟨σd, M, Dd, rs, rh, h, hD⟩ => hD.nx _ _ _ _ .refl rh rs h⟩
theorem dss_cons (h1 : DS X st t) (h2 : DSs X rest u) : DSs X (st :: rest) (dSeq t u) := by
  refine ⟨fun pn xe W tk po => PSs.weak (pss_cons (h1.run pn xe W tk po) (h2.run pn xe W tk po)) ?_⟩
  rintro σ H D ⟨σd, M, Dd, rs, rh, h, hD⟩
  refine ⟨σd, M, _, rs, rh, h, ⟨fun σd' M' σ' H' e' rh' rs' q => ?_, hD.rt, hD.bk, hD.ct, hD.ex⟩⟩
  exact ⟨σd', M', Dd, rs', rh', q, hD.ext e'⟩
theorem dss_one (h1 : DS X st t) : DSs X [st] t := ⟨fun pn xe W tk po => pss_one (h1.run pn xe W tk po)⟩
theorem ds_pass : DS X (.Pass pos) dNext := ⟨fun pn xe W tk po => PS.weak ps_pass fun σ H Q ⟨σd, M, Dd, rs, rh, h, hD⟩ => hD.nx _ _ _ _ .refl rh rs h⟩
def dBreak : DTS := fun D σ M => D.bk σ M
def dCont : DTS := fun D σ M => D.ct σ M
theorem ds_break : DS X (.Break pos) dBreak := ⟨fun pn xe W tk po => PS.weak ps_break fun σ H Q ⟨σd, M, Dd, rs, rh, h, hD⟩ => hD.bk _ _ _ _ .refl rh rs h⟩
theorem ds_cont : DS X (.Continue pos) dCont := ⟨fun pn xe W tk po => PS.weak ps_continue fun σ H Q ⟨σd, M, Dd, rs, rh, h, hD⟩ => hD.ct _ _ _ _ .refl rh rs h⟩
def dDrop (d : DTE) : DTS := fun D σ M => d σ M (fun _ M1 => D.nx σ M1) (fun x M1 => D.ex x σ M1)
theorem ds_expr (he : DE X e d) (hs : swapsWith e none pos.line X.env = pure false := by rfl) : DS X (.Expr e pos) (dDrop d) := by
  refine ⟨fun pn xe W tk po => PS.weak (ps_expr (X := X.tr pn xe) (he.run pn xe W tk) hs) ?_⟩
  rintro σ H D ⟨σd, M, Dd, rs, rh, h, hD⟩
  exact ⟨σd, M, _, _, rs, rh, h, hD.ex.he rs, fun x M1 v H1 e1 rh1 r1 q1 => hD.nx _ _ _ _ e1 rh1 (rs.ext e1) q1⟩
def dRet (d : DTE) : DTS := fun D σ M => d σ M D.rt (fun x M1 => D.ex x σ M1)
theorem ds_ret (he : DE X e d) : DS X (.Return (some e) pos) (dRet d) := by
  refine ⟨fun pn xe W tk po => PS.weak (ps_ret (he.run pn xe W tk)) ?_⟩
  rintro σ H D ⟨σd, M, Dd, rs, rh, h, hD⟩
  exact ⟨σd, M, _, _, rs, rh, h, hD.ex.he rs, hD.rt⟩
def dRetN : DTS := fun D _ M => D.rt .non M
theorem ds_retN : DS X (.Return none pos) dRetN := ⟨fun pn xe W tk po => PS.weak ps_retN fun σ H Q ⟨σd, M, Dd, rs, rh, h, hD⟩ => hD.rt _ _ _ _ .refl rh .non h⟩
def dIf (c : DTT) (t u : DTS) : DTS := fun D σ M => c σ M (fun b M1 => (b = true → t D σ M1) ∧ (b = false → u D σ M1)) (fun x M1 => D.ex x σ M1)
theorem ds_if {c : Expr} {a b : List Stmt} {tc : DTT} (hc : DT X c tc) (ha : DSs X a t) (hb : DSs X b u) : DS X (.If c a b pos) (dIf tc t u) := by
  refine ⟨fun pn xe W tk po => PS.weak (ps_if (hc.run pn xe W tk) (ha.run pn xe W tk po) (hb.run pn xe W tk po)) ?_⟩
  rintro σ H D ⟨σd, M, Dd, rs, rh, h, hD⟩
  refine ⟨σd, M, _, _, rs, rh, h, hD.ex.he rs, fun b M1 H1 e1 rh1 q1 => ?_⟩
  cases b with
  | true => exact iteT ⟨σd, M1, Dd, rs.ext e1, rh1, q1.1 rfl, hD.ext e1⟩
  | false => exact iteF ⟨σd, M1, Dd, rs.ext e1, rh1, q1.2 rfl, hD.ext e1⟩

/-! ### targets -/
abbrev DTG := D → DSt → HM → (DSt → HM → Prop) → Prop
abbrev DTGs := List D → DSt → HM → (DSt → HM → Prop) → Prop
def liftG (K : Frag) (mg : Str → Option Value) (g : DTG) : TG := fun v σ H Q => ∃ x σd M Qd, RV K mg M H x v ∧ RS K mg M H σd σ ∧ RH K mg M H ∧ g x σd (strip M) Qd ∧ HN K mg M H Qd Q
def liftGs (K : Frag) (mg : Str → Option Value) (g : DTGs) : TGs := fun vs σ H Q => ∃ xs σd M Qd, RVs K mg M H xs vs ∧ RS K mg M H σd σ ∧ RH K mg M H ∧ g xs σd (strip M) Qd ∧ HN K mg M H Qd Q
structure DG (X : Cx) (tg : Expr) (g : DTG) : Prop where
  run : ∀ (pn : List (Addr × Obj)) (xe : Value → Shared → Prop), Tk X pn xe (fun _ _ _ _ => False) → PG (X.tr pn xe) tg (liftG X.K X.mg g)
structure DGs (X : Cx) (tg : List Expr) (g : DTGs) : Prop where
  run : ∀ (pn : List (Addr × Obj)) (xe : Value → Shared → Prop), Tk X pn xe (fun _ _ _ _ => False) → PGs (X.tr pn xe) tg (liftGs X.K X.mg g)
theorem PG.weak {X : Cx} {e : Expr} {t t' : TG} (h : PG X e t) (k : ∀ v σ H Q, t' v σ H Q → t v σ H Q) : PG X e t' := ⟨fun pins s σ H v u Q I r q => h.run pins s σ H v u Q I r (k v σ H Q q)⟩
theorem PGs.weak {X : Cx} {e : List Expr} {t t' : TGs} (h : PGs X e t) (k : ∀ v σ H Q, t' v σ H Q → t v σ H Q) : PGs X e t' := ⟨fun pins s σ H v u Q I r q => h.run pins s σ H v u Q I r (k v σ H Q q)⟩
def dgName (i : Nat) : DTG := fun x σ M Q => Q (σ.set i (some x)) M
theorem dg_name {i : Nat} {x : Str} (hN : X.N.Nodup) (hi : X.N[i]? = some x := by rfl) (hx : Loc X.env.scope x := by first | exact Or.inl rfl | exact Or.inr rfl) (hf : X.fn x = true ∨ X.env.scope.names.lookup x = some .local := by first | exact .inl rfl | exact .inr rfl | assumption) : DG X (.Name x pos) (dgName i) := by
  refine ⟨fun pn xe tk => PG.weak (pg_name (X := X.tr pn xe) hN hi hx hf) ?_⟩
  rintro v σ H Q ⟨x, σd, M, Qd, rv, rs, rh, h, hQ⟩
  exact hQ _ _ _ _ .refl rh (rs.set rv i) h
def dgNil : DTGs := fun xs σ M Q => xs = [] ∧ Q σ M
def dgCons (g : DTG) (r : DTGs) : DTGs := fun xs σ M Q => match xs with
  | x :: ys => g x σ M fun σ1 M1 => r ys σ1 M1 Q
  | [] => False
theorem dgs_nil : DGs X [] dgNil := by
  refine ⟨fun pn xe tk => PGs.weak pgs_nil ?_⟩
  rintro v σ H Q ⟨xs, σd, M, Qd, rv, rs, rh, ⟨h1, h2⟩, hQ⟩
  subst h1
  cases rv
  exact ⟨rfl, hQ _ _ _ _ .refl rh rs h2⟩
theorem dgs_cons {es : List Expr} {g : DTG} {r : DTGs} (h1 : DG X e g) (h2 : DGs X es r) (hs : (assignEach (e :: es) X.env).map (·.2) = assign e X.env :: (assignEach es X.env).map (·.2) := by rfl) : DGs X (e :: es) (dgCons g r) := by
  refine ⟨fun pn xe tk => PGs.weak (pgs_cons (X := X.tr pn xe) (h1.run pn xe tk) (h2.run pn xe tk) hs) ?_⟩
  rintro v σ H Q ⟨xs, σd, M, Qd, rv, rs, rh, h, hQ⟩
  unfold dgCons at h
  split at h
  · cases rv with
    | cons r1 r2 =>
      refine ⟨_, _, rfl, _, σd, M, _, r1, rs, rh, h, fun σd' M' σ' H' e' rh' rs' q => ?_⟩
      exact ⟨_, σd', M', Qd, r2.ext e', rs', rh', q, hQ.ext e'⟩
  · exact h.elim
def dgTup (n : Nat) (g : DTGs) : DTG := fun x σ M Q => ∃ ds, seqOf M x = some ds ∧ ds.length = n ∧ g ds σ M Q
theorem dg_tup {es : List Expr} {k : Nat} {g : DTGs} {n : Nat} (hc : X.calm = true) (h : DGs X es g) (hn : (assignEach es X.env).length = n := by rfl) (hst : (assignEach es X.env).findIdx? (·.1) = none := by rfl) : DG X (.Tuple es k pos) (dgTup n g) := by
  refine ⟨fun pn xe tk => ⟨fun pins s σ H v u Q I r q => ?_⟩⟩
  obtain ⟨x, σd, M, Qd, rv, rs, rh, ⟨ds, e, hl, q⟩, hQ⟩ := q
  obtain ⟨a, vs, rfl, hs, rvs⟩ := seq_of rh rv e
  rcases hs with hs | hs
  · exact (pg_lst (X := X.tr pn xe) (n := n) hc (h.run pn xe tk) hn hst).run pins s σ H _ u Q I r ⟨a, vs, rfl, hs, by rw [← rvs.length]; exact hl, ds, σd, M, Qd, rvs, rs, rh, q, hQ⟩
  · exact (pg_tup (X := X.tr pn xe) (n := n) hc (h.run pn xe tk) hn hst).run pins s σ H _ u Q I r ⟨a, vs, rfl, hs, by rw [← rvs.length]; exact hl, ds, σd, M, Qd, rvs, rs, rh, q, hQ⟩
/-! ### o[i] = v -/
def fSet (o i v : D) (M : HM) (Q : HM → Prop) : Prop := match o with
  | .ref a => match M a with
    | some (.lst ds) => ∃ k j, i = .int k ∧ ixN ds.length k = some j ∧ Q (mup M a (.lst (ds.set j v)))
    | some (.dK kvs) => ∃ k, keyOf i = some k ∧ kvs.length < 1000000 ∧ Q (mup M a (.dK (putD kvs k v)))
    | _ => False
  | _ => False
def liftSet (K : Frag) (mg : Str → Option Value) : TSet := fun o i v H Q => ∃ od id vd M Qd, RV K mg M H od o ∧ RV K mg M H id i ∧ RV K mg M H vd v ∧ RH K mg M H ∧ fSet od id vd (strip M) Qd ∧ ∀ M' H', Ext M H M' H' → RH K mg M' H' → Qd (strip M') → Q H'
theorem set_D (hu : X.A.units + 1 < cLine) : ∀ pn xe, PSet (X.tr pn xe) (liftSet X.K X.mg) := by
  intro pn xe pins s σ H o i v ov iv u Q I ro ri rv h
  obtain ⟨od, id, vd, M, Qd, rod, rid, rvd, rh, h, hQ⟩ := h
  unfold fSet at h
  split at h
  · cases rod
    split at h
    · rename_i a _ ds em
      obtain ⟨k, j, rfl, hj, q⟩ := h
      cases rid
      obtain ⟨vs, eh, rvs⟩ := rh a _ (strip_some em)
      have hm : M a ≠ none := by rw [strip_some em]; simp
      have nm : shy (M a) = false := by rw [strip_some em]; rfl
      refine set_list (X := X.tr pn xe) pins s σ H _ _ v ov iv u Q I ro ri rv ⟨a, vs, k, j, rfl, rfl, eh, by rw [← rvs.length]; exact hj, ?_⟩
      have nh : shy (some (MO.lst (ds.set j vd))) = false := rfl
      exact hQ _ _ (Ext.wr hm nm nh) (rh.wr hm nm nh ⟨vs.set j v, upd_same, RVs.set (rvd.ext (Ext.wr hm nm nh)) j (rvs.ext (Ext.wr hm nm nh))⟩) (by rw [strip_mup nh]; exact q)
    · rename_i a _ kvs em
      obtain ⟨k, ek, hl, q⟩ := h
      obtain ⟨vs, eh, rvs⟩ := rh a _ (strip_some em)
      have hm : M a ≠ none := by rw [strip_some em]; simp
      have nm : shy (M a) = false := by rw [strip_some em]; rfl
      have hlen : ((kvs.map (·.1)).zip vs).length = kvs.length := by
        have hl := rvs.length
        rw [List.length_map] at hl
        rw [List.length_zip, List.length_map, ← hl, Nat.min_self]
      obtain ⟨ws, e1, r1⟩ := put_zip (k := k) rvd rvs
      refine set_dict (X := X.tr pn xe) hu pins s σ H _ i v ov iv u Q I ro ri rv ⟨a, _, rfl, by rw [key_rel rid ek]; exact DPut.k eh (by rw [hlen, sizeLine_eq]; omega), ?_⟩
      rw [e1]
      have nh : shy (some (MO.dK (putD kvs k vd))) = false := rfl
      exact hQ _ _ (Ext.wr hm nm nh) (rh.wr hm nm nh ⟨ws, upd_same, r1.ext (Ext.wr hm nm nh)⟩) (by rw [strip_mup nh]; exact q)
    · exact h.elim
  · exact h.elim
def dgSub (a b : DTE) : DTG := fun x σ M Q => a σ M (fun o M1 => b σ M1 (fun i M2 => fSet o i x M2 fun M3 => Q σ M3) fun _ _ => False) fun _ _ => False
theorem HE.none {K : Frag} {mg : Str → Option Value} {W : WX} {M : HM} {H : Hp} {σ : L2.St} : HE K mg W M H σ (fun _ _ => False) := fun _ _ _ _ _ _ _ _ z => z.elim
theorem dg_sub {o i : Expr} {a b : DTE} (hu : X.A.units + 1 < cLine) (ho : DE X o a) (hi : DE X i b)
    (ha : ∀ v, assign (.Subscript o i pos) X.env v = (do
      let ov ← holding [v] (eval o X.env)
      let iv ← holding [v, ov] (eval i X.env)
      standAt pos
      holding [v, ov, iv] (setItem ov iv v)
      release [v, ov, iv] []) := by intro _; rfl) : DG X (.Subscript o i pos) (dgSub a b) := by
  refine ⟨fun pn xe tk => PG.weak (pg_sub (X := X.tr pn xe) (ho.run pn xe _ tk) (hi.run pn xe _ tk) (set_D hu pn xe) ha) ?_⟩
  rintro v σ H Q ⟨x, σd, M, Qd, rv, rs, rh, h, hQ⟩
  refine ⟨σd, M, _, _, rs, rh, h, HE.none, fun od M1 o' H1 e1 rh1 r1 q1 => ?_⟩
  refine ⟨σd, M1, _, _, rs.ext e1, rh1, q1, HE.none, fun id M2 i' H2 e2 rh2 r2 q2 => ?_⟩
  exact ⟨od, id, x, M2, _, r1.ext e2, r2, (rv.ext e1).ext e2, rh2, q2, fun M' H' e' rh' q => hQ _ _ _ _ ((e1.trans e2).trans e') rh' (((rs.ext e1).ext e2).ext e') q⟩
/-! ### assignments -/
def dAsg (d : DTE) (g : DTG) : DTS := fun D σ M => d σ M (fun x M1 => g x σ M1 D.nx) (fun x M1 => D.ex x σ M1)
theorem takes_none {X : Cx} {pn : List (Addr × Obj)} {xe : Value → Shared → Prop} {W : WX} (tk : Tk X pn xe W) : Tk X pn xe (fun _ _ _ _ => False) := ⟨tk.tk.imp fun _ _ _ _ z => z.elim, tk.sub⟩
theorem lift_asg {K : Frag} {mg : Str → Option Value} {W : WX} {g : DTG} {σ : L2.St} {H : Hp} {D : Ends} (h : liftS K mg W (dAsg d g) D σ H) : tAsg (lift K mg W d) (liftG K mg g) D σ H := by
  obtain ⟨σd, M, Dd, rs, rh, h, hD⟩ := h
  exact ⟨σd, M, _, _, rs, rh, h, hD.ex.he rs, fun x M1 v H1 e1 rh1 r1 q1 => ⟨x, σd, M1, _, r1, rs.ext e1, rh1, q1, hD.nx.ext e1⟩⟩
theorem ds_set {i : Nat} {x : Str} {pos' : Pos} (hN : X.N.Nodup) (he : DE X e d) (hi : X.N[i]? = some x := by rfl) (hx : Loc X.env.scope x := by first | exact Or.inl rfl | exact Or.inr rfl) (hs : swapsWith e (some (.Name x pos')) pos.line X.env = pure false := by rfl)
    (hf : X.fn x = true ∨ X.env.scope.names.lookup x = some .local := by first | exact .inl rfl | exact .inr rfl | assumption) : DS X (.Assign [.Name x pos'] e pos) (dAsg d (dgName i)) := by
  refine ⟨fun pn xe W tk po => PS.weak (ps_set (X := X.tr pn xe) hN hi hx (he.run pn xe W tk) hs hf) fun σ H D h => ?_⟩
  obtain ⟨σd, M, Dd, rs, rh, h, hD⟩ := h
  exact ⟨σd, M, _, _, rs, rh, h, hD.ex.he rs, fun x M1 v H1 e1 rh1 r1 q1 => hD.nx _ _ _ _ e1 rh1 ((rs.ext e1).set r1 i) q1⟩
theorem ds_asg {tg : Expr} {g : DTG} (he : DE X e d) (hg : DG X tg g) (hs : swapsWithSole [tg] e pos.line X.env = pure false := by rfl) (hw : swappedStores [tg] e X.env = pure none := by rfl)
    (h1 : (assignEach [tg] X.env).map (·.2) = [assign tg X.env] := by rfl) : DS X (.Assign [tg] e pos) (dAsg d g) :=
  ⟨fun pn xe W tk po => PS.weak (ps_asg (X := X.tr pn xe) (he.run pn xe W tk) (hg.run pn xe (takes_none tk)) hs hw h1) fun _ _ _ h => lift_asg h⟩
def dPar (i j : Nat) (r : DTA) : DTS := fun D σ M => r σ M (fun xs M1 => match xs with
  | [x, y] => D.nx ((σ.set i (some x)).set j (some y)) M1
  | _ => False) (fun x M1 => D.ex x σ M1)
theorem ds_par {i j : Nat} {x y : Str} {a b : Expr} {r : DTA} {px py pt : Pos} {kt k2 pt2} (hc : X.calm = true) (hN : X.N.Nodup) (ha : DA X [a, b] r) (hij : i ≠ j := by decide) (hi : X.N[i]? = some x := by rfl) (hj : X.N[j]? = some y := by rfl)
    (hx : X.env.scope.names.lookup x = some .local := by rfl) (hy : X.env.scope.names.lookup y = some .local := by rfl)
    (hw : swappedStores [.Tuple [.Name x px, .Name y py] kt pt] (.Tuple [a, b] k2 pt2) X.env = pure (some [x, y]) := by rfl)
    (hs : swapsWithSole [.Tuple [.Name x px, .Name y py] kt pt] (.Tuple [a, b] k2 pt2) pos.line X.env = pure false := by rfl) :
    DS X (.Assign [.Tuple [.Name x px, .Name y py] kt pt] (.Tuple [a, b] k2 pt2) pos) (dPar i j r) := by
  refine ⟨fun pn xe W tk po => PS.weak (ps_par (X := X.tr pn xe) hc hN hi hj hij hx hy (ha.run pn xe W tk) hw hs) ?_⟩
  rintro σ H D ⟨σd, M, Dd, rs, rh, h, hD⟩
  refine ⟨σd, M, _, _, rs, rh, h, hD.ex.he rs, fun xs M1 vs H1 e1 rh1 r1 q1 => ?_⟩
  dsimp only at q1
  split at q1
  · obtain ⟨v, u, rfl, ra, rb⟩ := r1.two
    exact ⟨v, u, rfl, hD.nx _ _ _ _ e1 rh1 (((rs.ext e1).set ra i).set rb j) q1⟩
  · exact q1.elim
/-- x op= e -/
def dAug (i : Nat) (d : DTE) (od : DO2) : DTS := fun D σ M => match σ[i]? with
  | some (some x) => d σ M (fun y M1 => od x y M1 fun z M2 => D.nx (σ.set i (some z)) M2) (fun x M1 => D.ex x σ M1)
  | _ => False
theorem ds_aug {i : Nat} {x : Str} {op : Operator} {od : DO2} {pos' : Pos} (hN : X.N.Nodup) (ho : DOp X (inplaceOp op) od) (he : DE X e d) (hi : X.N[i]? = some x := by rfl) (hx : Loc X.env.scope x := by first | exact Or.inl rfl | exact Or.inr rfl)
    (hf : X.fn x = true ∨ X.env.scope.names.lookup x = some .local := by first | exact .inl rfl | exact .inr rfl | assumption) : DS X (.AugAssign (.Name x pos') op e pos) (dAug i d od) := by
  refine ⟨fun pn xe W tk po => PS.weak (ps_aug (X := X.tr pn xe) hN hi hx (he.run pn xe W tk) (ho pn xe) hf) ?_⟩
  rintro σ H D ⟨σd, M, Dd, rs, rh, h, hD⟩
  unfold dAug at h
  split at h
  · rename_i z ez
    obtain ⟨v, ev, rv⟩ := rs.loc i z ez
    refine ⟨v, ev, σd, M, _, _, rs, rh, h, hD.ex.he rs, fun y M1 u H1 e1 rh1 r1 q1 => ?_⟩
    exact ⟨z, y, M1, _, rv.ext e1, r1, rh1, q1, fun r M2 w H2 e2 rh2 r2 q2 => hD.nx _ _ _ _ (e1.trans e2) rh2 (((rs.ext e1).ext e2).set r2 i) q2⟩
  · exact h.elim
end
end DL

set_option Elab.async false
set_option linter.all false
set_option maxRecDepth 100000
set_option maxHeartbeats 1000000
/-! enumerate over a tuple -/
namespace PySem
namespace DX
theorem newEnum1 {v : Value} {o : Obj} {G : Heap → Prop} (B : Begins v o G) :
    Meets (Builtin.«enumerate.__new__» ⟨[.type "enumerate", v], []⟩) (fun _ R s => G s.heap ∧
      R (.ok (.ret (.ref (s.heap.push o).objs.size))) { s with heap := (s.heap.push o).push { cls := .type "enumerate", data := .fields #[.none, .bool false, .ref s.heap.objs.size, rawInt 0, .none, .none] } }) :=
  .of_wp fun prog w A R s h => by
    obtain ⟨hp, g, d, tk, os⟩ := s; obtain ⟨g1, h⟩ := h
    have hs := sub_enumerate
    have q1 : ∀ {A' : Around} {E : Value → Shared → Prop} {Q : Value → Shared → Prop}, Q (.ref hp.objs.size) ⟨hp.push o, g, d, tk, os⟩ → wpAny (model prog w) A' (pyIter v) Q E ⟨hp, g, d, tk, os⟩ := fun q => B.iter prog w _ _ ⟨hp, g, d, tk, os⟩ _ g1 q
    wp_walk using q1
    refine wpAny_stack_any fun st => wpAny_pure ?_
    split
    · rename_i c _ _ _ _ _
      cases (c == Value.type "enumerate")
      all_goals (wp_walk using q1; exact ⟨_, rfl, h⟩)
    · (wp_walk using q1; exact ⟨_, rfl, h⟩)
section
variable {prog : Program} {w : World} {A : Around} {E : Value → Shared → Prop} {s : Shared}
theorem enumOf {v : Value} {o : Obj} {G : Heap → Prop} {Q : Value → Shared → Prop} (B : Begins v o G) (g1 : G s.heap)
    (h : ∀ h', IsEnum h' (s.heap.objs.size + 1) s.heap.objs.size 0 .none → h'.get? s.heap.objs.size = some o → h'.objs.size = s.heap.objs.size + 2 → (∀ b o, s.heap.get? b = some o → h'.get? b = some o) → Q (.ref (s.heap.objs.size + 1)) { s with heap := h' }) :
    wpAny (model prog w) A (call (.type "enumerate") [v]) Q E s := by
  refine callType_new F.called_enumerate (by decide) (F.typeCall_enumerate_1 _) (F.newCall_enumerate_1 _) (fun obj => F.args_object_init_2 obj _) F.entry_enumerate_new (newEnum1 B) ⟨g1, ?_⟩
  have hz : (s.heap.push o).objs.size = s.heap.objs.size + 1 := Heap.size_push ..
  show _ ∧ _
  rw [hz]
  have he : IsEnum ((s.heap.push o).push { cls := .type "enumerate", data := .fields #[.none, .bool false, .ref s.heap.objs.size, rawInt 0, .none, .none] }) (s.heap.objs.size + 1) s.heap.objs.size 0 .none := by
    have := Heap.get?_push_size (s.heap.push o) (o := { cls := .type "enumerate", data := .fields #[.none, .bool false, .ref s.heap.objs.size, rawInt 0, .none, .none] }) rfl
    rw [hz] at this; exact this
  exact ⟨⟨_, he, rfl⟩, h _ he (Heap.get?_push_of_some _ (Heap.get?_push_size _ B.free)) (by rw [Heap.size_push, hz]) fun b o x => Heap.get?_push_of_some _ (Heap.get?_push_of_some _ x)⟩
end
end DX
end PySem
namespace L2
open PySem PySem.Spec PyProof.Rows
/-- the tuple at a, each item in a new pair -/
def IteT (K : PySem.W.Frag) (a : Addr) : It :=
  ⟨fun i H => ∃ (xs : List V) (x : V), SqT K H a xs ∧ xs[i]? = some x, fun i H v H' => ∃ T x, v = .ref T ∧ H T = none ∧ H' = upd H T (.tup [.int (i : Nat), x]) ∧ ∀ xs, SqT K H a xs → xs[i]? = some x, fun i H => ∃ xs : List V, SqT K H a xs ∧ xs.length = i⟩
theorem turn_enumT {P : Program} {w : World} {K : PySem.W.Frag} {elts : List Expr} {kk : Nat} {tpos : Pos} (a e it : Addr) :
    Turn P w K (.Tuple elts kk tpos) (IteT K a) [e, it] e (fun i h => (∃ old, IsEnum h e it ((i : Nat) : Int) old) ∧ h.IsTupleIter it a i ∧ e ≠ it) where
  mem := by simp
  obj := fun i h st b hb => by
    obtain ⟨⟨old, he⟩, ⟨o, ho, hc, hd⟩, _⟩ := st
    rcases (show b = e ∨ b = it by simpa using hb) with z | z
    · rw [z]; exact ⟨_, he, fun v q => nomatch q⟩
    · rw [z]; exact ⟨o, ho, fun v q => by rw [hd] at q; cases q⟩
  keep := fun i h h' st k => let ⟨⟨old, he⟩, hi, hne⟩ := st; ⟨⟨old, k e (by simp) _ he⟩, hi.at fun o q => k it (by simp) o q, hne⟩
  item := by
    intro X hP hw hK hc i pins s σ H E I hf st hg
    subst hP hw hK
    obtain ⟨⟨old, he⟩, hit, hne⟩ := st
    obtain ⟨xs, x, hq, hx⟩ := hg
    obtain ⟨its, rv, p, hz⟩ := I.tuple hq
    obtain ⟨u, hu, ru⟩ := rv.get hx
    have hel : e < s.heap.objs.size := Heap.lt_size he
    have hil : it < s.heap.objs.size := by obtain ⟨_, q, _⟩ := hit; exact Heap.lt_size q
    have hai : a ≠ it := by
      intro z
      obtain ⟨o1, q1, c1, _⟩ := hit
      obtain ⟨o2, q2, c2, _⟩ := p
      rw [z, q1] at q2; cases q2; rw [c1] at c2; exact absurd (Value.type.inj c2) (by decide)
    have hae : e ∉ [it, a] := by
      intro z
      rcases (show e = it ∨ e = a by simpa using z) with z | z
      · exact hne z
      · obtain ⟨o2, q2, c2, _⟩ := p
        rw [← z, show s.heap.get? e = _ from he] at q2; cases q2; exact absurd (Value.type.inj c2) (by decide)
    have hil2 : i < its.toArray.size := by
      have := (List.getElem?_eq_some_iff.mp hu).1
      simpa using this
    refine wpAny_pyNext_enum_itemD (Draws.tuple (A := X.A.in1) (by show X.A.handled = none; exact I.ok.hd hc) it a hai its.toArray) he ⟨hit, p⟩ hil2 hne hae fun u' h' tk hP ho hst' hT hsz hk => ?_
    obtain ⟨hit', _⟩ := hst'
    have eu : u' = u := by
      have z : its.toArray[i]? = some u' := hP
      rw [show its.toArray[i]? = its[i]? by simp] at z
      rw [hu] at z; exact (Option.some.inj z).symm
    subst eu
    refine ⟨_, rfl, wpAny_letOwnedTupleGo_enum (s := { s with heap := h', toks := tk + 1 }) ho fun h'' he' sb => ?_⟩
    have hT2 : h''.get? s.heap.objs.size = some { cls := .type "tuple", data := .seq #[.int i tk, u'] } := (sb.2 _ (Nat.ne_of_gt hel)).trans hT
    have new : ObjOk X.prog X.w (upd H s.heap.objs.size (.tup [.int (i : Nat), x])) h'' s.heap.objs.size (.tup [.int (i : Nat), x]) :=
      ⟨by show 2 ≤ sizeLine; decide, [.int i tk, u'], .cons ⟨_, rfl⟩ (.cons ru .nil), ⟨_, hT2, rfl, _, rfl⟩⟩
    have I1 : Inv X pins σ (upd H s.heap.objs.size (.tup [.int (i : Nat), x])) { s with heap := h'', toks := tk + 1 } :=
      I.turnedNew (ch := [e, it]) (fun b ob hb q => (sb.2 b (fun z => hb (by simp [z]))).trans (hk b ob (fun z => hb (by simp [z])) (fun z => hb (by simp [z])) q)) hf (Nat.le_refl _) new
    refine ⟨.ref s.heap.objs.size, _, I1, rfl, ⟨_, x, rfl, I.hok.fresh (Nat.le_refl _), rfl, fun ys hy => by rw [I.tuple_inj hy hq]; exact hx⟩, ⟨⟨u', ?_⟩, hit'.at fun o q => (sb.2 it (Ne.symm hne)).trans q, hne⟩, fun b hb => ?_⟩
    · have e1 : ((i + 1 : Nat) : Int) = (i : Int) + 1 := by omega
      rw [e1]; exact he'
    · have hb' : b < s.heap.objs.size := by
        rcases (show b = e ∨ b = it by simpa using hb) with z | z
        · rw [z]; exact hel
        · rw [z]; exact hil
      rw [upd_ne (Nat.ne_of_lt hb')]
      exact (hf b hb).1
  done := by
    intro X hP hw hK hc i pins s σ H E I hf st hg
    subst hP hw hK
    obtain ⟨⟨old, he⟩, hit, hne⟩ := st
    obtain ⟨xs, hq, hx⟩ := hg
    obtain ⟨its, rv, p, hz⟩ := I.tuple hq
    obtain ⟨f0, f1, f2, f3, f4, f5⟩ := hf it (by simp)
    have hl := rv.length
    have hai : a ≠ it := by
      intro z
      obtain ⟨o1, q1, c1, _⟩ := hit
      obtain ⟨o2, q2, c2, _⟩ := p
      rw [z, q1] at q2; cases q2; rw [c1] at c2; exact absurd (Value.type.inj c2) (by decide)
    have hn : its.toArray.size = i := by rw [List.size_toArray]; omega
    have D := Draws.tuple (prog := X.prog) (w := X.w) (A := X.A.in1) (by show X.A.handled = none; exact I.ok.hd hc) it a hai its.toArray
    rw [hn] at D
    exact wpAny_pyNext_enum_endD D he ⟨hit, p⟩ fun h' eb => ⟨rfl, I.turned (t' := s.toks) (fun b o hb q => eb b o hb q) f0 f1 f3 f4 f5⟩
  self := fun A i s Q E st h => let ⟨⟨_, he⟩, _⟩ := st; wpAny_pyIter_enum he h
end L2

set_option Elab.async false
set_option linter.all false
set_option maxRecDepth 100000
set_option maxHeartbeats 400000
namespace DL
open PySem PySem.Spec PyProof.Rows L2
open PySem.W (Frag)
variable [TB]

/-! ### while -/
def dWhile (c : DTT) (tb : DTS) : DTS := fun D σ M => ∃ Wd : Nat → DSt → HM → Prop, (∃ m, Wd m σ M) ∧ ∀ m σ M, Wd m σ M →
  c σ M (fun b M1 => (b = true → tb { D with nx := fun σ' M' => ∃ m', m' < m ∧ Wd m' σ' M', ct := fun σ' M' => ∃ m', m' < m ∧ Wd m' σ' M', bk := D.nx } σ M1) ∧ (b = false → D.nx σ M1)) (fun x M1 => D.ex x σ M1)
section
variable {X : Cx} {pos : Pos}
theorem ds_while {c : Expr} {body : List Stmt} {tc : DTT} {tb : DTS} (hc : DT X c tc) (hb : DSs X body tb) : DS X (.While c body [] pos) (dWhile tc tb) := by
  refine ⟨fun pn xe W tk po => PS.weak (ps_while (X := X.tr pn xe) po (hc.run pn xe W tk) (hb.run pn xe W tk po)) ?_⟩
  rintro σ H D ⟨σd, M, Dd, rs, rh, ⟨Wd, ⟨m0, w0⟩, turn⟩, hD⟩
  refine ⟨fun m σ' H' => ∃ σd' M', Ext M H M' H' ∧ RH X.K X.mg M' H' ∧ RS X.K X.mg M' H' σd' σ' ∧ Wd m σd' (strip M'), ⟨m0, σd, M, .refl, rh, rs, w0⟩, ?_⟩
  rintro m σ' H' ⟨σd', M', e1, rh1, rs1, w1⟩
  refine ⟨σd', M', _, _, rs1, rh1, turn m σd' (strip M') w1, (hD.ex.ext e1).he rs1, fun b M2 H2 e2 rh2 q2 => ?_⟩
  cases b with
  | true =>
    refine iteT ⟨fun σ3 H3 => ∃ m', m' < m ∧ ∃ σd3 M3, Ext M H M3 H3 ∧ RH X.K X.mg M3 H3 ∧ RS X.K X.mg M3 H3 σd3 σ3 ∧ Wd m' σd3 (strip M3), fun _ _ h => h, ?_⟩
    have e12 := e1.trans e2
    refine ⟨σd', M2, _, rs1.ext e2, rh2, q2.1 rfl, ⟨?_, hD.rt.ext e12, hD.nx.ext e12, ?_, hD.ex.ext e12⟩⟩
    all_goals
      rintro σd3 M3 σ3 H3 e3 rh3 rs3 ⟨m', hm, w3⟩
      exact ⟨m', hm, σd3, M3, e12.trans e3, rh3, rs3, w3⟩
  | false => exact iteF (hD.nx _ _ _ _ (e1.trans e2) rh2 (rs1.ext e2) (q2.2 rfl))
end

/-! ### what is walked -/
structure Walks (K : Frag) (mg : Str → Option Value) (J : It) (ds : List D) (M0 : HM) (H0 : Hp) : Prop where
  go : ∀ i M H, ExtW M0 H0 M H → RH K mg M H → i < ds.length → J.go i H
  yld : ∀ i M H v H', ExtW M0 H0 M H → RH K mg M H → J.yld i H v H' → i < ds.length → ∃ d, ds[i]? = some d ∧ Ext M H M H' ∧ RH K mg M H' ∧ RV K mg M H' d v
  stop : ∀ M H, ExtW M0 H0 M H → RH K mg M H → J.stop ds.length H
abbrev DTI := DSt → HM → (List D → HM → Prop) → XDK → Prop
def HW (K : Frag) (mg : Str → Option Value) (M : HM) (H : Hp) (Qd : List D → HM → Prop) (R : It → Hp → Prop) : Prop :=
  ∀ ds M' H' J, Ext M H M' H' → RH K mg M' H' → Walks K mg J ds M' H' → Qd ds (strip M') → R J H'
def liftI (K : Frag) (mg : Str → Option Value) (W : WX) (d : DTI) : TI := fun σ H R => ∃ σd M Qd Ed, RS K mg M H σd σ ∧ RH K mg M H ∧ d σd (strip M) Qd Ed ∧ HE K mg W M H σ Ed ∧ HW K mg M H Qd R
structure DI (X : Cx) (tg iter : Expr) (d : DTI) : Prop where
  run : ∀ (pn : List (Addr × Obj)) (xe : Value → Shared → Prop) (W : WX), Tk X pn xe W → PI (X.tr pn xe) tg iter (liftI X.K X.mg W d)
theorem PI.weak {X : Cx} {tg e : Expr} {t t' : TI} (h : PI X tg e t) (k : ∀ σ H Q, t' σ H Q → t σ H Q) : PI X tg e t' := ⟨fun pins s σ H Q I q => h.run pins s σ H Q I (k σ H Q q)⟩
/-- a tree that is walked: a tuple, a list that nobody changes -/
def frzOf : D → Option (List D)
  | .tup ds => some ds
  | .lst ds => some ds
  | .lsf ds => some ds
  | _ => none
def dISeq (d : DTE) : DTI := fun σ M Q E => d σ M (fun x M1 => ∃ ds, frzOf x = some ds ∧ Q ds M1) E
theorem walks_list {K : Frag} {mg : Str → Option Value} {a : Addr} {ds : List D} {vs : List V} {M0 : HM} {H0 : Hp} (stay : ∀ M H, ExtW M0 H0 M H → SqL K H a vs) (r : RVs K mg M0 H0 ds vs) :
    Walks K mg (Itl K a) ds M0 H0 where
  go := fun i M H e rh hi => ⟨vs, vs[i]'(by rw [← r.length]; exact hi), stay M H e, by simp⟩
  yld := fun i M H v H' e rh y hi => by
    obtain ⟨rfl, y⟩ := y
    have hv := y vs (stay M _ e)
    obtain ⟨d, h1, h2⟩ := r.get hv
    exact ⟨d, h1, .refl, rh, h2.extw e.toExtR⟩
  stop := fun M H e rh => ⟨vs, stay M H e, by rw [r.length]; exact Nat.le_refl _⟩
theorem walks_tup {K : Frag} {mg : Str → Option Value} {a : Addr} {ds : List D} {vs : List V} {M0 : HM} {H0 : Hp} (stay : ∀ M H, ExtW M0 H0 M H → SqT K H a vs) (r : RVs K mg M0 H0 ds vs) : Walks K mg (Itt K a) ds M0 H0 where
  go := fun i M H e rh hi => ⟨vs, vs[i]'(by rw [← r.length]; exact hi), stay M H e, by simp⟩
  yld := fun i M H v H' e rh y hi => by
    obtain ⟨rfl, y⟩ := y
    have hv := y vs (stay M _ e)
    obtain ⟨d, h1, h2⟩ := r.get hv
    exact ⟨d, h1, .refl, rh, h2.extw e.toExtR⟩
  stop := fun M H e rh => ⟨vs, stay M H e, by rw [r.length]; exact Nat.le_refl _⟩
theorem stayT {K : Frag} {a : Addr} {vs : List V} {M0 M : HM} {H0 H : Hp} (h : (M0 a = none ∧ Rd H0 a (.tup vs)) ∨ cT K a vs) (e : ExtW M0 H0 M H) : SqT K H a vs := sqT (M := M) (h.imp e.toExtR.rd id)
theorem stayL {K : Frag} {a : Addr} {vs : List V} {M0 M : HM} {H0 H : Hp} (h : (M0 a = none ∧ Rd H0 a (.lst vs)) ∨ cL K a vs) (e : ExtW M0 H0 M H) : SqL K H a vs := sqL (M := M) (h.imp e.toExtR.rd id)
theorem frz_of {K : Frag} {mg : Str → Option Value} {M : HM} {H : Hp} {d : D} {v : V} {ds : List D} (r : RV K mg M H d v) (h : frzOf d = some ds) :
    ∃ a vs, v = .ref a ∧ RVs K mg M H ds vs ∧ (((M a = none ∧ Rd H a (.lst vs)) ∨ cL K a vs) ∨ ((M a = none ∧ Rd H a (.tup vs)) ∨ cT K a vs)) := by
  cases r with
  | tup e rs => cases h; exact ⟨_, _, rfl, rs, .inr e⟩
  | lst hm e rs => cases h; exact ⟨_, _, rfl, rs, .inl (.inl ⟨hm, .inl e⟩)⟩
  | lsf e rs => cases h; exact ⟨_, _, rfl, rs, .inl e⟩
  | _ => cases h
section
variable {X : Cx} {tg e : Expr} {d : DTE} {pos : Pos}
theorem di_seq (he : DE X e d) : DI X tg e (dISeq d) := by
  refine ⟨fun pn xe W tk => ⟨fun pins s σ H R I h => ?_⟩⟩
  obtain ⟨σd, M, Qd, Ed, rs, rh, h, hE, hQ⟩ := h
  refine thn ((he.run pn xe W tk).run pins s σ H (fun v H1 => ∃ x M1, Ext M H M1 H1 ∧ RH X.K X.mg M1 H1 ∧ RV X.K X.mg M1 H1 x v ∧ ∃ ds, frzOf x = some ds ∧ Qd ds (strip M1)) I ⟨σd, M, _, Ed, rs, rh, h, hE, fun x M1 v H1 e1 rh1 r1 q1 => ⟨x, M1, e1, rh1, r1, q1⟩⟩) fun v s1 ⟨y, H1, I1, r1, x, M1, e1, rh1, rx, ds, hf, q⟩ => ?_
  obtain ⟨a, vs, rfl, rvs, hs⟩ := frz_of rx hf
  cases r1
  rcases hs with hs | hs
  · obtain ⟨its, rv, p, hz⟩ := I1.list (sqL hs)
    refine wpAny_pyIter_list p.isList ?_
    refine ⟨s1.heap.objs.size, [s1.heap.objs.size], _, _, H1, rfl, I1.kept (t' := s1.toks) fun b o e => Heap.get?_push_of_some _ e, turn_list a _, ⟨_, Heap.get?_push_size _ rfl, rfl, rfl⟩, fun b hb => ?_, ?_⟩
    · have eb : b = s1.heap.objs.size := by simpa using hb
      subst eb
      exact I1.fpOk (Nat.le_refl _) (I1.hok.fresh (Nat.le_refl _))
    · exact hQ ds M1 H1 _ e1 rh1 (walks_list (fun _ _ e => stayL hs e) rvs) q
  · obtain ⟨its, rv, p, hz⟩ := I1.tuple (sqT hs)
    refine wpAny_pyIter_tuple (show s1.heap.IsTuple a its.toArray from p) ?_
    refine ⟨s1.heap.objs.size, [s1.heap.objs.size], _, _, H1, rfl, I1.kept (t' := s1.toks) fun b o e => Heap.get?_push_of_some _ e, turn_tuple a _, ⟨_, Heap.get?_push_size _ rfl, rfl, rfl⟩, fun b hb => ?_, ?_⟩
    · have eb : b = s1.heap.objs.size := by simpa using hb
      subst eb
      exact I1.fpOk (Nat.le_refl _) (I1.hok.fresh (Nat.le_refl _))
    · exact hQ ds M1 H1 _ e1 rh1 (walks_tup (fun _ _ e => stayT hs e) rvs) q
end
/-! ### range, enumerate, a text's signs -/
def rgD (lo : Int) (n : Nat) : List D := (List.range n).map fun i => .int (lo + (i : Nat))
theorem rgD_length (lo : Int) (n : Nat) : (rgD lo n).length = n := by simp [rgD]
theorem walks_range {K : Frag} {mg : Str → Option Value} {lo : Int} {n : Nat} {M0 : HM} {H0 : Hp} : Walks K mg (Itr lo n) (rgD lo n) M0 H0 where
  go := fun i M H e rh hi => by rw [rgD_length] at hi; exact hi
  yld := fun i M H v H' e rh y hi => by
    obtain ⟨rfl, rfl⟩ := y
    rw [rgD_length] at hi
    exact ⟨.int (lo + (i : Nat)), by simp [rgD, hi], .refl, rh, .int⟩
  stop := fun M H e rh => by rw [rgD_length]; exact Nat.le_refl _
def enD (ds : List D) : List D := ds.zipIdx.map fun p => .tup [.int (p.2 : Nat), p.1]
theorem enD_length (ds : List D) : (enD ds).length = ds.length := by simp [enD]
theorem enD_get {ds : List D} {i : Nat} {d : D} (h : ds[i]? = some d) : (enD ds)[i]? = some (.tup [.int (i : Nat), d]) := by
  simp [enD, h]
theorem walks_en {K : Frag} {mg : Str → Option Value} {J : It} {ds : List D} {vs : List V} {M0 : HM} {H0 : Hp} (r : RVs K mg M0 H0 ds vs)
    (go : ∀ i M H, ExtW M0 H0 M H → RH K mg M H → i < ds.length → J.go i H) (stop : ∀ M H, ExtW M0 H0 M H → RH K mg M H → J.stop ds.length H)
    (yld : ∀ i M H v H', ExtW M0 H0 M H → RH K mg M H → J.yld i H v H' → ∃ T x, v = .ref T ∧ H T = none ∧ H' = upd H T (.tup [.int (i : Nat), x]) ∧ vs[i]? = some x) : Walks K mg J (enD ds) M0 H0 where
  go := fun i M H e rh hi => go i M H e rh (by rw [enD_length] at hi; exact hi)
  yld := fun i M H v H' e rh y hi => by
    obtain ⟨T, x, rfl, hT, rfl, hx⟩ := yld i M H v H' e rh y
    obtain ⟨d, h1, h2⟩ := r.get hx
    exact ⟨_, enD_get h1, .new hT, rh.new hT, rv_tup rh hT (.cons .int (.cons (h2.extw e.toExtR) .nil))⟩
  stop := fun M H e rh => by rw [enD_length]; exact stop M H e rh
def dIRng1 (r : DTA) : DTI := fun σ M Q E => r σ M (fun xs M1 => match xs with
  | [.int j] => (-(2 ^ 62) ≤ j ∧ j < 2 ^ 62) ∧ Q (rgD 0 j.toNat) M1
  | _ => False) E
def dIRng2 (r : DTA) : DTI := fun σ M Q E => r σ M (fun xs M1 => match xs with
  | [.int i, .int j] => (-(2 ^ 62) ≤ i ∧ i < 2 ^ 62 ∧ -(2 ^ 62) ≤ j ∧ j < 2 ^ 62) ∧ Q (rgD i (j - i).toNat) M1
  | _ => False) E
def dIEnum (r : DTA) : DTI := fun σ M Q E => r σ M (fun xs M1 => match xs with
  | [x] => ∃ ds, frzOf x = some ds ∧ Q (enD ds) M1
  | _ => False) E
section
variable {X : Cx} {tg e : Expr} {d : DTE} {r : DTA} {p pos tpos : Pos}
theorem di_range1 {a : Expr} (hg : Gl X "range") (hm : X.mg "range" = none) (ha : DA X [a] r) (hs : starEach [a] X.env = [(false, eval a X.env)] := by rfl) : DI X tg (.Call (.Name "range" p) [a] [] pos) (dIRng1 r) := by
  refine ⟨fun pn xe W tk => PI.weak (pi_range1 (X := X.tr pn xe) hg hm (ha.run pn xe W tk) hs) ?_⟩
  rintro σ H R ⟨σd, M, Qd, Ed, rs, rh, h, hE, hQ⟩
  refine ⟨σd, M, _, Ed, rs, rh, h, hE, fun xs M1 vs H1 e1 rh1 r1 q1 => ?_⟩
  dsimp only at q1
  split at q1
  · obtain ⟨v, rfl, rv⟩ := r1.one
    cases rv
    exact ⟨_, rfl, q1.1.1, q1.1.2, hQ _ _ _ _ e1 rh1 walks_range q1.2⟩
  · exact q1.elim
theorem di_range2 {a b : Expr} (hg : Gl X "range") (hm : X.mg "range" = none) (ha : DA X [a, b] r) (hs : starEach [a, b] X.env = [(false, eval a X.env), (false, eval b X.env)] := by rfl) (hs2 : starEach [b] X.env = [(false, eval b X.env)] := by rfl) :
    DI X tg (.Call (.Name "range" p) [a, b] [] pos) (dIRng2 r) := by
  refine ⟨fun pn xe W tk => PI.weak (pi_range2 (X := X.tr pn xe) hg hm (ha.run pn xe W tk) hs hs2) ?_⟩
  rintro σ H R ⟨σd, M, Qd, Ed, rs, rh, h, hE, hQ⟩
  refine ⟨σd, M, _, Ed, rs, rh, h, hE, fun xs M1 vs H1 e1 rh1 r1 q1 => ?_⟩
  dsimp only at q1
  split at q1
  · obtain ⟨v, u, rfl, rv, ru⟩ := r1.two
    cases rv; cases ru
    exact ⟨_, _, rfl, q1.1, hQ _ _ _ _ e1 rh1 walks_range q1.2⟩
  · exact q1.elim
theorem di_enum {elts : List Expr} {kk : Nat} (hg : Gl X "enumerate") (hm : X.mg "enumerate" = none) (ha : DA X [e] r) (hs : starEach [e] X.env = [(false, eval e X.env)] := by rfl) : DI X (.Tuple elts kk tpos) (.Call (.Name "enumerate" p) [e] [] pos) (dIEnum r) := by
  refine ⟨fun pn xe W tk => ⟨fun pins s σ H R I h => ?_⟩⟩
  obtain ⟨σd, M, Qd, Ed, rs, rh, h, hE, hQ⟩ := h
  refine Call_ (ld_blt I hg hm boot_enumerate (PyProof.Rows.callWith_type1 (thn ((ha.run pn xe W tk).run pos pins s σ H (fun vs H1 => ∃ xs M1, Ext M H M1 H1 ∧ RH X.K X.mg M1 H1 ∧ RVs X.K X.mg M1 H1 xs vs ∧ ∃ x ds, xs = [x] ∧ frzOf x = some ds ∧ Qd (enD ds) (strip M1)) I
    ⟨σd, M, _, Ed, rs, rh, h, hE, fun xs M1 vs H1 e1 rh1 r1 q1 => ⟨xs, M1, e1, rh1, r1, by
      dsimp only at q1
      split at q1
      · exact ⟨_, _, rfl, q1.choose_spec.1, q1.choose_spec.2⟩
      · exact q1.elim⟩⟩) fun us s1 ⟨vs, H1, I1, r1, xs, M1, e1, rh1, rx, x, ds, ex, hf, q⟩ => ?_) hs rfl))
  subst ex
  obtain ⟨v, rfl, rv⟩ := rx.one
  obtain ⟨a, vs, rfl, rvs, hsq⟩ := frz_of rv hf
  cases r1 with
  | cons ru rr =>
    cases rr
    cases ru
    have hle : ∀ b, b = s1.heap.objs.size + 1 ∨ b = s1.heap.objs.size → s1.heap.objs.size ≤ b := fun b z => by
      rcases z with z | z
      · rw [z]; exact Nat.le_add_right _ _
      · rw [z]; exact Nat.le_refl _
    rcases hsq with hsq | hsq
    · obtain ⟨its, rl, pl, hz⟩ := I1.list (sqL hsq)
      refine call_enumerate_list pl.isList fun h' he hit hsz hk => wpAny_pyIter_enum he ?_
      have I2 : Inv (X.tr pn xe) pins σ H1 { s1 with heap := h' } := I1.kept (t' := s1.toks) hk
      refine ⟨s1.heap.objs.size + 1, [s1.heap.objs.size + 1, s1.heap.objs.size], _, _, H1, rfl, I2, turn_enum a (s1.heap.objs.size + 1) s1.heap.objs.size, ⟨⟨.none, he⟩, hit, Nat.succ_ne_self _⟩, fun b hb => ?_, ?_⟩
      · have z : b = s1.heap.objs.size + 1 ∨ b = s1.heap.objs.size := by simpa using hb
        exact I1.fpOk (hle b z) (I1.hok.fresh (hle b z))
      · refine hQ _ M1 H1 _ e1 rh1 (walks_en rvs (fun i M H e rh hi => ?_) (fun M H e rh => ⟨vs, stayL hsq e, by rw [rvs.length]; exact Nat.le_refl _⟩) fun i M H v H' e rh y => ?_) q
        · exact ⟨vs, vs[i]'(by rw [← rvs.length]; exact hi), stayL hsq e, by simp⟩
        · obtain ⟨T, x, ev, hT, eH, hx⟩ := y
          exact ⟨T, x, ev, hT, eH, hx vs (stayL hsq e)⟩
    · obtain ⟨its, rl, pl, hz⟩ := I1.tuple (sqT hsq)
      refine DX.enumOf (begins_tuple a its.toArray) (show s1.heap.IsTuple a its.toArray from pl) fun h' he hit hsz hk => wpAny_pyIter_enum he ?_
      have I2 : Inv (X.tr pn xe) pins σ H1 { s1 with heap := h' } := I1.kept (t' := s1.toks) hk
      refine ⟨s1.heap.objs.size + 1, [s1.heap.objs.size + 1, s1.heap.objs.size], _, _, H1, rfl, I2, turn_enumT a (s1.heap.objs.size + 1) s1.heap.objs.size, ⟨⟨.none, he⟩, ⟨_, hit, rfl, rfl⟩, Nat.succ_ne_self _⟩, fun b hb => ?_, ?_⟩
      · have z : b = s1.heap.objs.size + 1 ∨ b = s1.heap.objs.size := by simpa using hb
        exact I1.fpOk (hle b z) (I1.hok.fresh (hle b z))
      · refine hQ _ M1 H1 _ e1 rh1 (walks_en rvs (fun i M H e rh hi => ?_) (fun M H e rh => ⟨vs, stayT hsq e, rvs.length.symm⟩) fun i M H v H' e rh y => ?_) q
        · exact ⟨vs, vs[i]'(by rw [← rvs.length]; exact hi), stayT hsq e, by simp⟩
        · obtain ⟨T, x, ev, hT, eH, hx⟩ := y
          exact ⟨T, x, ev, hT, eH, hx vs (stayT hsq e)⟩
end
/-! ### for -/
def dForL (g : DTG) (tb : DTS) : List D → DEnds → DSt → HM → Prop
  | [], D, σ, M => D.nx σ M
  | x :: r, D, σ, M => g x σ M fun σ1 M1 => tb { D with nx := fun σ' M' => dForL g tb r D σ' M', ct := fun σ' M' => dForL g tb r D σ' M', bk := D.nx } σ1 M1
def dFor (di : DTI) (g : DTG) (tb : DTS) : DTS := fun D σ M => di σ M (fun ds M1 => dForL g tb ds D σ M1) (fun x M1 => D.ex x σ M1)
section
variable {X : Cx} {tg iter : Expr} {body : List Stmt} {di : DTI} {g : DTG} {tb : DTS} {pos : Pos}
theorem ds_for (hc : X.calm = true) (hi : DI X tg iter di) (hg : DG X tg g) (hb : DSs X body tb) (hs : ∀ x, foldedSetIterable iter X.env x = pure x := by intro _; rfl) : DS X (.For tg iter body [] pos) (dFor di g tb) := by
  refine ⟨fun pn xe W tk po => PS.weak (ps_for (X := X.tr pn xe) po hc (hi.run pn xe W tk) (hg.run pn xe (takes_none tk)) (hb.run pn xe W tk po) hs) ?_⟩
  rintro σ H D ⟨σd, M, Dd, rs, rh, h, hD⟩
  refine ⟨σd, M, _, _, rs, rh, h, hD.ex.he rs, fun ds M1 H1 J e1 rh1 wk q1 => ?_⟩
  refine ⟨fun i m σ' H' => m = ds.length - i ∧ i ≤ ds.length ∧ ∃ σd' M', Ext M1 H1 M' H' ∧ RH X.K X.mg M' H' ∧ RS X.K X.mg M' H' σd' σ' ∧ dForL g tb (ds.drop i) Dd σd' (strip M'), ⟨ds.length, by simp, Nat.zero_le _, σd, M1, .refl, rh1, rs.ext e1, by simpa using q1⟩, ?_⟩
  rintro i m σ' H' ⟨rfl, hi, σd', M', e2, rh2, rs2, q2⟩
  by_cases hlt : i < ds.length
  · refine .inr ⟨wk.go i M' H' e2.toExtW rh2 hlt, fun σ3 H3 => ∃ σd3 M3, Ext M1 H1 M3 H3 ∧ RH X.K X.mg M3 H3 ∧ RS X.K X.mg M3 H3 σd3 σ3 ∧ dForL g tb (ds.drop (i + 1)) Dd σd3 (strip M3), fun σ3 H3 z => ⟨ds.length - (i + 1), by omega, rfl, hlt, z⟩, fun v H3 y => ?_⟩
    obtain ⟨d, hd, e3, rh3, rv⟩ := wk.yld i M' H' v H3 e2.toExtW rh2 y hlt
    have ed : ds.drop i = d :: ds.drop (i + 1) := by
      obtain ⟨hl, hd'⟩ := List.getElem?_eq_some_iff.mp hd
      rw [List.drop_eq_getElem_cons hl, hd']
    rw [ed] at q2
    have e123 := (e1.trans e2).trans e3
    refine ⟨d, σd', M', _, rv, rs2.ext e3, rh3, q2, fun σd4 M4 σ4 H4 e4 rh4 rs4 q4 => ?_⟩
    refine ⟨σd4, M4, _, rs4, rh4, q4, ⟨?_, (hD.rt.ext e123).ext e4, (hD.nx.ext e123).ext e4, ?_, (hD.ex.ext e123).ext e4⟩⟩
    all_goals
      rintro σd5 M5 σ5 H5 e5 rh5 rs5 q5
      exact ⟨σd5, M5, ((e2.trans e3).trans e4).trans e5, rh5, rs5, q5⟩
  · have e : i = ds.length := by omega
    subst e
    rw [List.drop_length] at q2
    exact .inl ⟨wk.stop M' H' e2.toExtW rh2, hD.nx _ _ _ _ (e1.trans e2) rh2 rs2 q2⟩
end
end DL

set_option Elab.async false
set_option linter.all false
set_option maxRecDepth 100000
set_option maxHeartbeats 400000
namespace DL
open PySem PySem.Spec PyProof.Rows L2
open PySem.W (Frag)
variable [TB]

/-! ### a comprehension's own names -/
def wipeD (σ : DSt) : List Nat → DSt
  | [] => σ
  | v :: vs => (wipeD σ vs).set v none
theorem wipe_get {α : Type} {f : List (Option α) → List Nat → List (Option α)} (h0 : ∀ σ, f σ [] = σ) (h1 : ∀ σ v vs, f σ (v :: vs) = (f σ vs).set v none) (σ : List (Option α)) (j : Nat) : ∀ vs : List Nat, (f σ vs)[j]? = if j ∈ vs then σ[j]?.map (fun _ => none) else σ[j]?
  | [] => by rw [h0]; simp
  | v :: vs => by
    rw [h1, List.getElem?_set]
    have ih := wipe_get h0 h1 σ j vs
    have hl : ∀ vs : List Nat, (f σ vs).length = σ.length := by
      intro vs
      induction vs with
      | nil => rw [h0]
      | cons v vs ih => rw [h1, List.length_set, ih]
    by_cases e : v = j
    · subst e
      rw [if_pos rfl, hl]
      by_cases hv : v < σ.length
      · rw [if_pos hv]; simp [hv]
      · rw [if_neg hv]; simp [List.getElem?_eq_none (Nat.le_of_not_lt hv)]
    · rw [if_neg e, ih]
      by_cases hj : j ∈ vs
      · rw [if_pos hj, if_pos (List.mem_cons_of_mem _ hj)]
      · rw [if_neg hj, if_neg (by simp only [List.mem_cons, not_or]; exact ⟨fun z => e z.symm, hj⟩)]
theorem wipeV_get (σ : L2.St) (j : Nat) (vs : List Nat) : (wipe σ vs)[j]? = if j ∈ vs then σ[j]?.map (fun _ => none) else σ[j]? := wipe_get (f := wipe) (fun _ => rfl) (fun _ _ _ => rfl) σ j vs
theorem wipeD_get (σ : DSt) (j : Nat) (vs : List Nat) : (wipeD σ vs)[j]? = if j ∈ vs then σ[j]?.map (fun _ => none) else σ[j]? := wipe_get (f := wipeD) (fun _ => rfl) (fun _ _ _ => rfl) σ j vs
theorem wipeD_length (σ : DSt) : ∀ vs : List Nat, (wipeD σ vs).length = σ.length
  | [] => rfl
  | v :: vs => by unfold wipeD; rw [List.length_set, wipeD_length σ vs]
theorem wipe_set {σ : L2.St} {vs : List Nat} {i : Nat} {x : Option V} (hi : i ∈ vs) : wipe (σ.set i x) vs = wipe σ vs := by
  apply List.ext_getElem?
  intro j
  rw [wipeV_get, wipeV_get]
  by_cases hj : j ∈ vs
  · rw [if_pos hj, if_pos hj, List.getElem?_set]
    by_cases e : i = j
    · subst e
      rw [if_pos rfl]
      by_cases hl : i < σ.length
      · rw [if_pos hl]; simp [hl]
      · rw [if_neg hl]; simp [List.getElem?_eq_none (Nat.le_of_not_lt hl)]
    · rw [if_neg e]
  · rw [if_neg hj, if_neg hj, List.getElem?_set_ne (fun e => hj (by rw [← e]; exact hi))]
theorem wipe_idem (σ : L2.St) (vs : List Nat) : wipe (wipe σ vs) vs = wipe σ vs := by
  apply List.ext_getElem?
  intro j
  rw [wipeV_get, wipeV_get]
  by_cases hj : j ∈ vs
  · rw [if_pos hj, if_pos hj]; cases σ[j]? <;> rfl
  · rw [if_neg hj, if_neg hj]
theorem RS.wipe {K : Frag} {mg : Str → Option Value} {M : HM} {H : Hp} {σd : DSt} {σ : L2.St} (r : RS K mg M H σd σ) (vs : List Nat) : RS K mg M H (wipeD σd vs) (L2.wipe σ vs) := by
  refine ⟨fun j d h => ?_, by rw [wipeD_length, wipe_length]; exact r.len⟩
  rw [wipeD_get] at h
  rw [wipeV_get]
  by_cases hj : j ∈ vs
  · rw [if_pos hj] at h
    cases e : σd[j]? with
    | none => rw [e] at h; cases h
    | some o => rw [e] at h; cases h
  · rw [if_neg hj] at h
    rw [if_neg hj]
    exact r.loc j d h
/-- what a comprehension's target does -/
abbrev DTgt := DSt → D → Option DSt
def TgOk (K : Frag) (mg : Str → Option Value) (g : TG) (tgt : DTgt) (vs : List Nat) : Prop := ∀ {x : D} {v : V} {σd σd2 : DSt} {σ : L2.St} {M : HM} {H : Hp} {Q : L2.St → Hp → Prop}, RV K mg M H x v → RS K mg M H σd σ → tgt σd x = some σd2 →
  (∀ σ2, RS K mg M H σd2 σ2 → wipe σ2 vs = wipe σ vs → Q σ2 H) → g v σ H Q
def tgN (i : Nat) : DTgt := fun σ x => some (σ.set i (some x))
theorem tgok_n {K : Frag} {mg : Str → Option Value} {i : Nat} {vs : List Nat} (hi : i ∈ vs) : TgOk K mg (gName i) (tgN i) vs := by
  intro x v σd σd2 σ M H Q rv rs e h
  cases e
  exact h _ (rs.set rv i) (wipe_set hi)
def gNs : List Nat → TGs
  | [] => gNil
  | i :: is => gCons (gName i) (gNs is)
def setNs (σ : DSt) : List Nat → List D → DSt
  | i :: is, x :: xs => setNs (σ.set i (some x)) is xs
  | _, _ => σ
def tgT (is : List Nat) : DTgt := fun σ x => match x with
  | .tup ds => if ds.length = is.length then some (setNs σ is ds) else none
  | _ => none
theorem gNs_ok {K : Frag} {mg : Str → Option Value} {vs : List Nat} {M : HM} {H : Hp} {Q : L2.St → Hp → Prop} : ∀ (is : List Nat) {xs : List D} {us : List V} {σd : DSt} {σ : L2.St}, (∀ i ∈ is, i ∈ vs) → RVs K mg M H xs us → RS K mg M H σd σ → xs.length = is.length →
    (∀ σ2, RS K mg M H (setNs σd is xs) σ2 → wipe σ2 vs = wipe σ vs → Q σ2 H) → gNs is us σ H Q
  | [], _, _, _, _, _, .nil, rs, _, h => ⟨rfl, h _ rs rfl⟩
  | i :: is, _, _, _, _, hi, .cons r rr, rs, hl, h => by
    refine ⟨_, _, rfl, ?_⟩
    refine gNs_ok is (fun j hj => hi j (List.mem_cons_of_mem _ hj)) rr (rs.set r i) (by simpa using hl) fun σ2 r2 e2 => h σ2 r2 ?_
    rw [e2, wipe_set (hi i List.mem_cons_self)]
theorem tgok_t {K : Frag} {mg : Str → Option Value} {n : Nat} {is : List Nat} {vs : List Nat} (hi : ∀ i ∈ is, i ∈ vs) (hn : is.length = n) : TgOk K mg (gTup K n (gNs is)) (tgT is) vs := by
  intro x v σd σd2 σ M H Q rv rs e h
  unfold tgT at e
  split at e
  · split at e
    · rename_i hl
      cases e
      obtain ⟨a, us, rfl, hs, rr⟩ := tup_of rv rfl
      exact ⟨a, us, rfl, hs, by rw [← rr.length, hl, hn], gNs_ok is hi rr rs hl h⟩
    · cases e
  · cases e

/-! ### the comprehension -/
def dCompL (tgt : DTgt) (tc : DTT) (de : DTE) (σ : DSt) : List D → List D → HM → (List D → HM → Prop) → Prop
  | [], acc, M, Q => Q acc M
  | x :: r, acc, M, Q => ∃ σ2, tgt σ x = some σ2 ∧ tc σ2 M (fun b M3 => (b = true → de σ2 M3 (fun y M4 => dCompL tgt tc de σ r (acc ++ [y]) M4 Q) fun _ _ => False) ∧ (b = false → dCompL tgt tc de σ r acc M3 Q)) fun _ _ => False
def dYes : DTT := fun _ M Q _ => Q true M
def dComp (di : DTI) (tgt : DTgt) (tc : DTT) (de : DTE) (vs : List Nat) : DTE := fun σ M Q E => di σ M (fun ds M1 => ds.length ≤ 1000000 ∧ dCompL tgt tc de (wipeD σ vs) ds [] M1 fun acc M2 => Q (.lst acc) M2) E
def dCompM (di : DTI) (tgt : DTgt) (tc : DTT) (de : DTE) (vs : List Nat) : DTE := fun σ M Q E => di σ M (fun ds M1 => ds.length ≤ 1000000 ∧ dCompL tgt tc de (wipeD σ vs) ds [] M1 fun acc M2 => ∀ a, M2 a = none → Q (.ref a) (mup M2 a (.lst acc))) E
/-- a comprehension's tests -/
structure DTs (X : Cx) (ifs : List Expr) (d : DTT) : Prop where
  run : X.pn = [] → PTs (X.tr [] fun _ _ => False) ifs (liftT X.K X.mg (fun _ _ _ _ => False) d)
theorem dts_nil {X : Cx} : DTs X [] dYes := ⟨fun _ => ⟨fun pins s σ H Q I h => by
  obtain ⟨σd, M, Qd, Ed, rs, rh, h, hE, hQ⟩ := h
  exact pts_nil.run pins s σ H Q I (hQ _ _ _ .refl rh h)⟩⟩
theorem dts_one {X : Cx} {c : Expr} {d : DTT} (h : DT X c d) : DTs X [c] d := ⟨fun e => pts_one (h.run [] (fun _ _ => False) (fun _ _ _ _ => False) ⟨takes0, fun _ z => by rw [e] at z; exact nomatch z⟩)⟩
section
variable {K : Frag} {mg : Str → Option Value} {M : HM} {H : Hp}
/-- the list of a comprehension, hidden while it grows -/
theorem ExtW.hide {a : Addr} {o : HO} (hn : H a = none) (hm : M a = none) : ExtW M H (mup M a .hid) (upd H a o) :=
  ⟨⟨fun b u e _ => by rw [upd_ne (ne_of_none e hn)]; exact e, fun b h => by
    by_cases hb : b = a
    · subst hb; exact .inr hn
    · rw [mup_ne hb] at h; exact .inl h⟩, fun b u e _ => by rw [upd_ne (ne_of_none e hn)]; exact e, fun b h => by
    have hb : b ≠ a := fun z => by rw [z, hm] at h; cases h
    rw [mup_ne hb]; exact h, fun b q h => by
    have hb : b ≠ a := fun z => by rw [z, hm] at h; cases h
    rw [mup_ne hb]; exact h⟩
theorem strip_hide {a : Addr} (hm : M a = none) : strip (mup M a .hid) = strip M := by
  funext b
  by_cases hb : b = a
  · subst hb; rw [strip_none hm]; exact strip_y (by rw [mup_same]; rfl)
  · unfold strip; rw [mup_ne hb]
theorem RH.hide (rh : RH K mg M H) {a : Addr} {o : HO} (hn : H a = none) : RH K mg (mup M a .hid) (upd H a o) := ⟨fun b u e => by
  by_cases hb : b = a
  · subst hb; rw [mup_same] at e; cases e; exact ⟨_, upd_same⟩
  · rw [mup_ne hb] at e
    exact (rh b u e).extw (ExtW.hide hn (rh.free hn)).toExtR (upd_ne hb), fun p hp => (ExtW.hide (o := o) hn (rh.free hn)).tb _ _ (rh.tb p hp)⟩
theorem mdel_ne {a b : Addr} (h : b ≠ a) : mdel M a b = M b := by unfold mdel; rw [if_neg h]
theorem mdel_same {a : Addr} : mdel M a a = none := by unfold mdel; rw [if_pos rfl]
theorem strip_mdel {a : Addr} (h : M a = some .hid) : strip (mdel M a) = strip M := by
  funext b
  by_cases hb : b = a
  · subst hb; rw [strip_none mdel_same, strip_y (by rw [h]; rfl)]
  · unfold strip; rw [mdel_ne hb]
theorem extr_mdel {a : Addr} : ExtR M H (mdel M a) H := ⟨fun _ _ e _ => e, fun b n => by
  by_cases hb : b = a
  · subst hb; exact absurd mdel_same n
  · rw [mdel_ne hb] at n; exact .inl n⟩
theorem RH.mdel (rh : RH K mg M H) {a : Addr} (nt : ∀ q, M a ≠ some (.tab q)) : RH K mg (mdel M a) H := ⟨fun b o e => by
  have hb : b ≠ a := fun z => by subst z; rw [mdel_same] at e; cases e
  rw [mdel_ne hb] at e
  exact (rh b o e).extw extr_mdel rfl, fun p hp => by rw [mdel_ne (fun z => nt p.2 (by rw [← z]; exact rh.tb p hp))]; exact rh.tb p hp⟩
/-- from the state ahead of the list to that behind it -/
theorem Ext.unhide {B : HM} {H' : Hp} {a : Addr} (hn : H a = none) (hm : M a = none) (e : ExtW M H B H') (hh : ∀ b, B b = some .hid ↔ (M b = some .hid ∨ b = a)) : Ext M H (mdel B a) H' where
  keep := e.keep
  dom := fun b n => by
    have hb : b ≠ a := fun z => by subst z; exact n mdel_same
    rw [mdel_ne hb] at n
    exact e.dom b n
  hk := e.hk
  hm := fun b h => by
    have hb : b ≠ a := fun z => by rw [z, hm] at h; cases h
    rw [mdel_ne hb]; exact e.hm b h
  tb := fun b q h => by
    have hb : b ≠ a := fun z => by rw [z, hm] at h; cases h
    rw [mdel_ne hb]; exact e.tb b q h
  hid := fun b => by
    by_cases hb : b = a
    · subst hb; rw [mdel_same, hm]
    · rw [mdel_ne hb, hh b]; exact ⟨fun z => z.elim id fun z => absurd z hb, .inl⟩
/-- an append to the hidden list: what is told of other things stays -/
theorem ExtR.wrHid {a : Addr} {o : HO} (h : M a = some .hid) : ExtR M H M (upd H a o) :=
  ⟨fun b u e n => by
    have hb : b ≠ a := fun z => by rw [z, h] at n; cases n
    rw [upd_ne hb]; exact e, fun b n => .inl n⟩
theorem RH.wrHid (rh : RH K mg M H) {a : Addr} {o : HO} (h : M a = some .hid) : RH K mg M (upd H a o) := ⟨fun b u e => by
  by_cases hb : b = a
  · subst hb; rw [h] at e; cases e; exact ⟨_, upd_same⟩
  · exact (rh b u e).extw (ExtR.wrHid h) (upd_ne hb), rh.tb⟩
theorem ExtW.wrHid {B : HM} {H' : Hp} {a : Addr} {o : HO} (hn : H a = none) (e : ExtW M H B H') : ExtW M H B (upd H' a o) :=
  ⟨⟨fun b u h n => by rw [upd_ne (ne_of_none h hn)]; exact e.keep b u h n, e.dom⟩, fun b u h n => by rw [upd_ne (ne_of_none h hn)]; exact e.hk b u h n, e.hm, e.tb⟩
end
section
variable {X : Cx} {elt tg iter : Expr} {ifs : List Expr} {scope : Scope} {own : List (Str × Nat)} {pos : Pos} {di : DTI} {tgt : DTgt} {g : TG} {tc : DTT} {de : DTE}
/-- the turns -/
theorem comp_turns {K : Frag} {mg : Str → Option Value} {vs : List Nat} (ht : TgOk K mg g tgt vs) {ds : List D} {M1 : HM} {H1 : Hp} {J : It} (wk : Walks K mg J ds M1 H1) {σd : DSt} {σ : L2.St} (rs : RS K mg M1 H1 σd σ) (rh : RH K mg M1 H1) {D : Addr} (hD : H1 D = none) (hlen : ds.length ≤ 1000000)
    {Qa : List DL.D → HM → Prop} {Qf : Hp → Prop} (h : dCompL tgt tc de (wipeD σd vs) ds [] (strip M1) Qa)
    (hq : ∀ acc B H' us, ExtW M1 H1 B H' → (∀ b, B b = some .hid ↔ (M1 b = some .hid ∨ b = D)) → RH K mg B H' → H' D = some (.lst us) → RVs K mg B H' acc us → Qa acc (strip B) → Qf H') :
    ∃ W : Nat → Nat → Hp → Prop, (∃ m, W 0 m (upd H1 D (.lst []))) ∧ ∀ i m H, W i m H →
      (J.stop i H ∧ Qf H) ∨ (J.go i H ∧ ∃ Nx : Hp → Prop, (∀ H', Nx H' → ∃ m', m' < m ∧ W (i + 1) m' H') ∧ ∀ x H', J.yld i H x H' → g x (wipe σ vs) H' fun σ2 H2 => wipe σ2 vs = wipe σ vs ∧ liftT K mg (fun _ _ _ _ => False) tc σ2 H2 fun b H3 =>
        if b = true then lift K mg (fun _ _ _ _ => False) de σ2 H3 fun y H4 => ∃ acc, H4 D = some (.lst acc) ∧ acc.length < sizeLine ∧ Nx (upd H4 D (.lst (acc ++ [y]))) else Nx H3) := by
  have hm1 : M1 D = none := rh.free hD
  have e0 : ExtW M1 H1 (mup M1 D .hid) (upd H1 D (.lst [])) := ExtW.hide hD hm1
  let P : Nat → Hp → Prop := fun i H => i ≤ ds.length ∧ ∃ B acc us, ExtW M1 H1 B H ∧ (∀ b, B b = some .hid ↔ (M1 b = some .hid ∨ b = D)) ∧ RH K mg B H ∧ H D = some (.lst us) ∧ RVs K mg B H acc us ∧ acc.length ≤ i ∧ dCompL tgt tc de (wipeD σd vs) (ds.drop i) acc (strip B) Qa
  have h0 : ∀ b, mup M1 D .hid b = some .hid ↔ (M1 b = some .hid ∨ b = D) := fun b => by
    by_cases hb : b = D
    · subst hb; rw [mup_same]; exact ⟨fun _ => .inr rfl, fun _ => rfl⟩
    · rw [mup_ne hb]; exact ⟨.inl, fun z => z.elim id fun z => absurd z hb⟩
  refine ⟨fun i m H => m = ds.length - i ∧ P i H, ⟨_, rfl, Nat.zero_le _, mup M1 D .hid, [], [], e0, h0, rh.hide hD, upd_same, .nil, Nat.le_refl _, by rw [strip_hide hm1]; simpa using h⟩, ?_⟩
  rintro i m H ⟨rfl, hi, B, acc, us, e1, hh, rh1, hHD, rus, hacc, q⟩
  have hB : B D = some .hid := (hh D).mpr (.inr rfl)
  by_cases hlt : i < ds.length
  · refine .inr ⟨wk.go i B H e1 rh1 hlt, P (i + 1), fun H' z => ⟨ds.length - (i + 1), by omega, rfl, z⟩, fun v H2 y => ?_⟩
    obtain ⟨d, hd, e2, rh2, rv⟩ := wk.yld i B H v H2 e1 rh1 y hlt
    have ed : ds.drop i = d :: ds.drop (i + 1) := by
      obtain ⟨hl, hd'⟩ := List.getElem?_eq_some_iff.mp hd
      rw [List.drop_eq_getElem_cons hl, hd']
    rw [ed] at q
    obtain ⟨σd2, et, q⟩ := q
    have hH2 : H2 D = some (.lst us) := e2.hk _ _ hHD hB
    refine ht rv (((rs.extw e1.toExtR).ext e2).wipe vs) et fun σ2 rs2 ew => ⟨by rw [ew, wipe_idem], ?_⟩
    refine ⟨σd2, B, _, _, rs2, rh2, q, HE.none, fun b B3 H3 e3 rh3 q3 => ?_⟩
    have hB3 : B3 D = some .hid := (e3.hid D).mpr hB
    have hH3 : H3 D = some (.lst us) := e3.hk _ _ hH2 hB
    have hh3 : ∀ b, B3 b = some .hid ↔ (M1 b = some .hid ∨ b = D) := fun b => (e3.hid b).trans (hh b)
    have e13 : ExtW M1 H1 B3 H3 := (e1.trans e2.toExtW).trans e3.toExtW
    cases b with
    | false => exact iteF ⟨hlt, B3, acc, us, e13, hh3, rh3, hH3, (rus.ext e2).ext e3, by omega, q3.2 rfl⟩
    | true =>
      refine iteT ⟨σd2, B3, _, _, rs2.ext e3, rh3, q3.1 rfl, HE.none, fun z B4 w H4 e4 rh4 rz q4 => ?_⟩
      have hB4 : B4 D = some .hid := (e4.hid D).mpr hB3
      have hH4 : H4 D = some (.lst us) := e4.hk _ _ hH3 hB3
      have rus4 := ((rus.ext e2).ext e3).ext e4
      have hl := rus4.length
      refine ⟨us, hH4, by rw [← hl, sizeLine_eq]; omega, hlt, B4, acc ++ [z], us ++ [w], (e13.trans e4.toExtW).wrHid hD, fun b => (e4.hid b).trans (hh3 b), rh4.wrHid hB4, upd_same, ?_, by rw [List.length_append]; simp; omega, q4⟩
      exact (rus4.append (.cons rz .nil)).extw (ExtR.wrHid hB4)
  · have e : i = ds.length := by omega
    subst e
    rw [List.drop_length] at q
    exact .inl ⟨wk.stop B H e1 rh1, hq acc B H us e1 hh rh1 hHD rus q⟩
theorem de_comp (hc : X.calm = true) (hN : X.N.Nodup) (hi : DI X tg iter di) (ok : blkC X.N X.env.scope scope own = true) (ht : TgOk X.K X.mg g tgt (own.map (·.2)))
    (hg : ∀ (s : Shared) (H : Hp) (C : Addr) (cl : List (Str × Addr)) (fp : List Addr), PG (X.blk s H scope (compEnvC scope cl C X.env) fp) tg g)
    (hts : ∀ (s : Shared) (H : Hp) (C : Addr) (cl : List (Str × Addr)) (fp : List Addr), DTs (X.blk s H scope (compEnvC scope cl C X.env) fp) ifs tc)
    (he : ∀ (s : Shared) (H : Hp) (C : Addr) (cl : List (Str × Addr)) (fp : List Addr), DE (X.blk s H scope (compEnvC scope cl C X.env) fp) elt de) (hs : ∀ x, foldedSetIterable iter X.env x = pure x := by intro _; rfl) :
    DE X (.ListComp elt [⟨tg, iter, ifs, 0⟩] scope pos) (dComp di tgt tc de (own.map (·.2))) := by
  refine ⟨fun pn xe W tk => PE.weak (pe_lc (X := X.tr pn xe) (own := own) (g := g) (te := lift X.K X.mg (fun _ _ _ _ => False) de) (tt := liftT X.K X.mg (fun _ _ _ _ => False) tc) hc hN (hi.run pn xe W tk) (blkOk_by ok) hg (fun s H C cl fp => (hts s H C cl fp).run rfl) (fun s H C cl fp => (he s H C cl fp).run [] (fun _ _ => False) (fun _ _ _ _ => False) ⟨takes0, fun _ z => nomatch z⟩) hs) ?_⟩
  rintro σ H Q ⟨σd, M, Qd, Ed, rs, rh, h, hE, hQ⟩
  refine ⟨σd, M, _, Ed, rs, rh, h, hE, fun ds M1 H1 J e1 rh1 wk q1 => fun D hD => ?_⟩
  refine comp_turns (Qf := fun H' => Q (.ref D) H') ht wk (rs.ext e1) rh1 hD q1.1 q1.2 fun acc B H' us e hh rhB hHD rus q => ?_
  have hB : B D = some .hid := (hh D).mpr (.inr rfl)
  refine hQ _ _ _ _ (e1.trans (Ext.unhide hD (rh1.free hD) e hh)) (rhB.mdel fun q z => by rw [hB] at z; cases z) (.lst mdel_same hHD (rus.extw extr_mdel)) ?_
  rw [strip_mdel hB]
  exact q
/-- .. whose list is changed later -/
theorem Ext.unhideM {M B : HM} {H H' : Hp} {a : Addr} {u : MO} (hn : H a = none) (hm : M a = none) (nh : shy (some u) = false) (e : ExtW M H B H') (hh : ∀ b, B b = some .hid ↔ (M b = some .hid ∨ b = a)) : Ext M H (mup B a u) H' where
  keep := e.keep
  dom := fun b n => by
    by_cases hb : b = a
    · subst hb; exact .inr hn
    · rw [mup_ne hb] at n
      exact e.dom b n
  hk := e.hk
  hm := fun b h => by
    have hb : b ≠ a := fun z => by rw [z, hm] at h; cases h
    rw [mup_ne hb]; exact e.hm b h
  tb := fun b q h => by
    have hb : b ≠ a := fun z => by rw [z, hm] at h; cases h
    rw [mup_ne hb]; exact e.tb b q h
  hid := fun b => by
    by_cases hb : b = a
    · subst hb; rw [mup_same, hm]; exact ⟨fun z => absurd z (shy_hid nh), fun z => nomatch z⟩
    · rw [mup_ne hb, hh b]; exact ⟨fun z => z.elim id fun z => absurd z hb, .inl⟩
theorem extr_mupH {B : HM} {H : Hp} {a : Addr} {u : MO} (h : B a = some .hid) : ExtR B H (mup B a u) H := ⟨fun _ _ e _ => e, fun b n => by
  by_cases hb : b = a
  · subst hb; exact .inl (by rw [h]; simp)
  · rw [mup_ne hb] at n; exact .inl n⟩
theorem strip_mupH {B : HM} {a : Addr} {u : MO} (nh : shy (some u) = false) : strip (mup B a u) = mup (strip B) a u := strip_mup nh
theorem de_compM (hc : X.calm = true) (hN : X.N.Nodup) (hi : DI X tg iter di) (ok : blkC X.N X.env.scope scope own = true) (ht : TgOk X.K X.mg g tgt (own.map (·.2)))
    (hg : ∀ (s : Shared) (H : Hp) (C : Addr) (cl : List (Str × Addr)) (fp : List Addr), PG (X.blk s H scope (compEnvC scope cl C X.env) fp) tg g)
    (hts : ∀ (s : Shared) (H : Hp) (C : Addr) (cl : List (Str × Addr)) (fp : List Addr), DTs (X.blk s H scope (compEnvC scope cl C X.env) fp) ifs tc)
    (he : ∀ (s : Shared) (H : Hp) (C : Addr) (cl : List (Str × Addr)) (fp : List Addr), DE (X.blk s H scope (compEnvC scope cl C X.env) fp) elt de) (hs : ∀ x, foldedSetIterable iter X.env x = pure x := by intro _; rfl) :
    DE X (.ListComp elt [⟨tg, iter, ifs, 0⟩] scope pos) (dCompM di tgt tc de (own.map (·.2))) := by
  refine ⟨fun pn xe W tk => PE.weak (pe_lc (X := X.tr pn xe) (own := own) (g := g) (te := lift X.K X.mg (fun _ _ _ _ => False) de) (tt := liftT X.K X.mg (fun _ _ _ _ => False) tc) hc hN (hi.run pn xe W tk) (blkOk_by ok) hg (fun s H C cl fp => (hts s H C cl fp).run rfl) (fun s H C cl fp => (he s H C cl fp).run [] (fun _ _ => False) (fun _ _ _ _ => False) ⟨takes0, fun _ z => nomatch z⟩) hs) ?_⟩
  rintro σ H Q ⟨σd, M, Qd, Ed, rs, rh, h, hE, hQ⟩
  refine ⟨σd, M, _, Ed, rs, rh, h, hE, fun ds M1 H1 J e1 rh1 wk q1 => fun D hD => ?_⟩
  refine comp_turns (Qf := fun H' => Q (.ref D) H') ht wk (rs.ext e1) rh1 hD q1.1 q1.2 fun acc B H' us e hh rhB hHD rus q => ?_
  have hB : B D = some .hid := (hh D).mpr (.inr rfl)
  have nh : shy (some (MO.lst acc)) = false := rfl
  have sB : strip B D = none := strip_y (by rw [hB]; rfl)
  have eu := Ext.unhideM hD (rh1.free hD) nh e hh
  refine hQ _ _ _ _ (e1.trans eu) ⟨fun b o eb => ?_, fun p hp => eu.tb _ _ (rh1.tb p hp)⟩ .ref (by rw [strip_mup nh]; exact q D sB)
  by_cases hb : b = D
  · subst hb; rw [mup_same] at eb; cases eb; exact ⟨us, hHD, rus.extw (extr_mupH hB)⟩
  · rw [mup_ne hb] at eb; exact (rhB b o eb).extw (extr_mupH hB) rfl
end
end DL

set_option Elab.async false
set_option linter.all false
set_option maxRecDepth 100000
set_option maxHeartbeats 400000
/-! promises of defs that are only called where no repr is under way (the guards of the surroundings are known to be none) -/
namespace DL
open PySem PySem.Spec PyProof.Rows L2
open PySem.W (Frag)

structure FnG (P : Program) (w : World) (K : Frag) (mg : Str → Option Value) (base : Heap) (k : Nat) (f : Addr) (fd : FuncData) (ps : List Str) (sp : Sp) : Prop where
  len : ∀ vs H Q E, sp vs H Q E → vs.length = ps.length
  run : ∀ (A : Around) (outer : List Env) (s : Shared) (H : Hp) (args : Args) (us : List Value) (vs : List V) (Q : VK) (E : XK), Room k A → A.guards = some [] → Env0 P w K mg base A outer s H → BindsTo s fd args (ps.zip us) → Vals vs us → sp vs H Q E → codeAny (model P w) A (.call (.ref f) args) (CR (L2.CX P w) outer P w H s Q E) s
theorem FnG.mono {P : Program} {w : World} {K : Frag} {mg : Str → Option Value} {base : Heap} {j k : Nat} {f : Addr} {fd : FuncData} {ps : List Str} {sp : Sp} (F : FnG P w K mg base j f fd ps sp) (h : j ≤ k) : FnG P w K mg base k f fd ps sp :=
  { len := F.len, run := fun A o s H a us vs Q E r => F.run A o s H a us vs Q E (r.mono h) }
section
variable {P : Program} {w : World} {K : Frag} {mg : Str → Option Value} {base : Heap}
theorem fnG_of {x qual : Str} {st : Stmt} {f : Addr} {fd : FuncData} {N ps : List Str} {k : Nat} {sp : Sp} (F : Fun K x qual st f fd) (S : FnScope N ps (defScope st)) (len : ∀ vs H Q E, sp vs H Q E → vs.length = ps.length)
    (hbody : ∀ (cdv : Value) (A : Around) (outer : List Env) (s : Shared) (H : Hp) (vs : List V) (Q : VK) (E : XK), Room k (A.deeper (envOfC qual (defScope st) s.heap.objs.size f cdv)) → A.guards = some [] → sp vs H Q E →
      ∃ t, PSs (cxOf (L2.CX P w) P w K mg base N qual (defScope st) f cdv A outer s H E) (defBody st) t ∧ t { nx := fun _ H' => Q .non H', rt := Q } (L2.start N vs) H) : FnG P w K mg base (k + 1) f fd ps sp := by
  obtain ⟨oc, od, kV, doc, pm, an, cdv, ct, osl, rfl, lk, hcd⟩ := F.ex
  refine { len := len, run := fun A outer s H args us vs Q E hr hG e0 hb r hsp => ?_ }
  have stay : ∀ b o, base.get? b = some o → s.heap.get? b = some o := fun b o e => (e0.bs b o e).1
  have kin : K.In s.heap := e0.mod.kin.keeps stay
  have nol : s.heap.NoLimit := e0.mod.nolimit.keeps stay
  have kinds : ∀ y ∈ ps.zip us, (defScope st).names.lookup y.1 = some .local ∨ ((defScope st).names.lookup y.1 = some .cell ∧ ((cellsFrom (s.heap.objs.size + 1) (defScope st).names []).lookup y.1).isSome = true) := by
    rintro ⟨n, v⟩ hy
    exact (S.par n (List.of_mem_zip hy).1).imp id fun q => ⟨q, PySem.W.cellsFrom_some _ _ _ (.inl q)⟩
  refine codeAny_call_function hr.depth (kin _ _ lk) rfl S.co S.gen rfl (PySem.W.codeRec_of kin hcd) (hb _ _ _ _ ?_)
  refine wpAny_newFunctionEnv_cells S.kind kinds fun env he s1 hx => ?_
  cases he
  refine ⟨nol.keeps hx.toInCall.keep, codeAny_func ?_⟩
  obtain ⟨t, pt, q⟩ := hbody cdv A outer s H vs Q E (hr.deeper _) hG hsp
  have I0 := inv_start (CX := L2.CX P w) (E := E) S hr.hd e0 (len _ _ _ _ hsp) r hx
  refine wpAny_mono (pt.run [] s1 _ H _ I0 q) (fun fl s' hs => ?_) fun _ _ z => z
  cases fl with
  | brk => exact (hs.choose_spec.choose_spec.2).elim
  | cont => exact (hs.choose_spec.choose_spec.2).elim
  | next =>
    obtain ⟨σ', H', J, z⟩ := hs
    exact ⟨V.non, H', J.os, J.bare, J.base, J.hok, rfl, z⟩
  | ret u =>
    obtain ⟨v, σ', H', J, rv, z⟩ := hs
    exact ⟨v, H', J.os, J.bare, J.base, J.hok, rv, z⟩
end
section
variable {X : Cx} {k : Nat} {f : Addr} {fd : FuncData} {ps : List Str} {sp : Sp} {x : Str} {p pos : Pos} {e : Expr} {es : List Expr} {t : TA}
theorem run_fnG {pins : List (Addr × Obj)} {σ : L2.St} {H : Hp} {s : Shared} {Q : VK} {us : List Value} {vs : List V} {E : L2.St → XK} (F : FnG X.prog X.w X.K X.mg X.base k f fd ps sp) (hr : Room k X.A) (hG : X.A.guards = some []) (hb : Binds X.K fd ps [])
    (hx : PassesAt (L2.CX X.prog X.w) X σ (E σ)) (I : Inv X pins σ H s) (r : Vals vs us) (h : sp vs H Q (E σ)) : wpAny (model X.prog X.w) X.A (call (.ref f) us) (EP X pins σ Q) X.xe s := by
  have hl : (us ++ []).length = ps.length := by rw [List.append_nil, ← r.length]; exact F.len _ _ _ _ h
  have b := hb s us I.kIn hl
  rw [List.append_nil] at b
  refine wpAny_call (codeAny_mono (F.run X.A X.stack s H _ us vs Q (E σ) hr hG I.env0 b r h) fun r s' z => ?_)
  cases r with
  | error e => exact hx pins H s e s' I z
  | ok fl =>
    cases fl with
    | ret u => exact I.after z
    | _ => exact z.elim
theorem pe_callG {E : L2.St → XK} (F : FnG X.prog X.w X.K X.mg X.base k f fd ps sp) (hr : Room k X.A) (hG : X.A.guards = some []) (hg : Gl X x) (hm : X.mg x = some (.ref f)) (hk : PySem.W.keepIn X.K (.ref f) = true) (hb : Binds X.K fd ps []) (hx : ∀ σ, PassesAt (L2.CX X.prog X.w) X σ (E σ))
    (ha : PA X (e :: es) t) (hdb : (x == ("__debug__" : Str)) = false := by decide) (he : starEach (e :: es) X.env = (false, eval e X.env) :: starEach es X.env := by rfl) (hpl : (backTo pos (starEach es X.env)).any (·.1) = false := by rfl) :
    PE X (.Call (.Name x p) (e :: es) [] pos) (tCallS sp E t) := by
  refine ⟨fun pins s σ H Q I h => wpAny_Call_Name_kw (ld_glob I hg hm ?_ hdb)⟩
  exact PySem.W.callWith_K (h₀ := X.base) I.ok.mod.kin hk (thn (ha.run pos pins s σ H _ I h) fun us s1 ⟨vs, H1, I1, r, q⟩ => ⟨I1.kIn, run_fnG F hr hG hb (hx σ) I1 r q⟩) he hpl
end

/-! ### the law's call -/
section
variable {P : Program} {w : World} {K : Frag} {mg mb : Str → Option Value} {k : Nat} {fa a : Addr} {fd : FuncData} {x : Str} {sp : Sp} {s₁ : Shared} {vs : List Value} {ns : List Int}
/-- at the law's own call no repr is under way -/
theorem law_at {H : Hp} (KX : K.In s₁.heap) (hns : s₁.heap.Ns mainGlobals mg) (hb : s₁.heap.Ns builtinsNs mb) (hbb : ∀ x : Str, x ≠ "__name__" → mb x = bootBuiltins x) (hlim : s₁.heap.NoLimit) (hg : s₁.gens = #[])
    (ha : s₁.heap.get? a = some { cls := .type "list", data := .seq vs.toArray }) (hr : Room k callerA)
    (F : ∀ base : Heap, K.In base → base.Ns mainGlobals mg → FnG P w K mg base k fa fd [x] sp) (hbind : ∀ (s : Shared) (u : Value), BindsTo s fd ⟨[u], []⟩ [(x, u)])
    (hO : Only H) (hok : HOk P w H s₁.heap) (hA : ∀ b, H b ≠ none → b = a) (hK : H a ≠ none → K.lookup a = none) (hsp : sp [.ref a] H (fun v _ => v = .bl true) fun _ _ _ => False) :
    codeAny (model P w) callerA (.call (.ref fa) ⟨[.ref a], []⟩) (fun r s' => r = .ok (.ret (.bool true)) ∧ OldK s₁.heap s'.heap ∧ s'.os = s₁.os ∧ AllBare s'.gens) s₁ := by
  -- what isn't the script is untracked
  have free : ∀ {b : Addr} {o : Obj}, s₁.heap.get? b = some o → (∀ u, H b = some u → b = a → False) → H b = none := fun {b o} _ n => by
    cases q : H b with
    | none => rfl
    | some u => exact (n u q (hA b (by rw [q]; simp))).elim
  have noD : ∀ {b : Addr} {o : Obj} {es : Array DictEntry} {ep : Nat}, s₁.heap.get? b = some o → o.data = .dict es ep → H b = none := fun {b o es ep} e d => free e fun u _ eb => by
    subst eb
    rw [ha] at e
    cases e
    have : Data.seq vs.toArray _ = Data.dict es ep := d
    cases this
  have lift : ∀ {b : Addr} {m : Str → Option Value}, s₁.heap.Ns b m → (hidT s₁.heap H).Ns b m := fun {b m} ⟨o, es, ep, e, d, r⟩ => ⟨o, es, ep, hidT_get e (noD e d), d, r⟩
  have kb : K.In (hidT s₁.heap H) := fun b o e => hidT_get (KX b o e) (free (KX b o e) fun u q eb => by
    subst eb
    rw [hK (by rw [q]; simp)] at e
    cases e)
  have hM : Mod K mg (hidT s₁.heap H) := ⟨kb, lift hns, ⟨mb, lift hb, hbb⟩, by obtain ⟨mc, h1, h2⟩ := hlim; exact ⟨mc, lift h1, h2⟩⟩
  have e0 : Env0 P w K mg (hidT s₁.heap H) callerA [] s₁ H := ⟨rfl, hM, fun _ _ e => of_hidT e, Nat.le_of_eq (hidT_size _ _), trivial, fun _ z => (nomatch z), hok, .of_eq hg⟩
  refine codeAny_mono ((F _ kb (lift hns)).run callerA [] s₁ H _ [.ref a] [.ref a] _ _ hr rfl e0 (hbind s₁ (.ref a)) (.cons rfl .nil) hsp) fun r s' h => ?_
  cases r with
  | error e =>
    obtain ⟨_, _, _, _, _, _, _, _, _, _, _, _, z⟩ := h
    exact z.elim
  | ok fl =>
    cases fl with
    | ret u =>
      obtain ⟨v, H', os, bare, un, hok', rv, q⟩ := h
      cases (show v = .bl true from q)
      cases (show u = Value.bool true from rv)
      refine ⟨rfl, OldK.of_keep fun b o e => ?_, os, bare⟩
      rcases hO b with z | ⟨ob, xs, z⟩
      · exact un.keep b o e z (fun z => (nomatch z)) (by simp)
      · have h1 := hok b _ z
        have h2 := hok' b _ (un.frzs b ob _ z)
        have e1 := h1.1
        rw [e] at e1
        cases e1
        exact h2.1
    | _ => exact h.elim
theorem law_callG (KX : K.In s₁.heap) (hns : s₁.heap.Ns mainGlobals mg) (hb : s₁.heap.Ns builtinsNs mb) (hbb : ∀ x : Str, x ≠ "__name__" → mb x = bootBuiltins x) (hlim : s₁.heap.NoLimit) (hg : s₁.gens = #[])
    (ha : s₁.heap.get? a = some { cls := .type "list", data := .seq vs.toArray }) (hi : IntsAre vs ns) (hl : ns.length ≤ sizeLine) (hr : Room k callerA)
    (F : ∀ base : Heap, K.In base → base.Ns mainGlobals mg → FnG P w K mg base k fa fd [x] sp) (hbind : ∀ (s : Shared) (u : Value), BindsTo s fd ⟨[u], []⟩ [(x, u)])
    (hsp : ∀ H : Hp, Only H → SqL K H a (ns.map V.int) → sp [.ref a] H (fun v _ => v = .bl true) fun _ _ _ => False) :
    codeAny (model P w) callerA (.call (.ref fa) ⟨[.ref a], []⟩) (fun r s' => r = .ok (.ret (.bool true)) ∧ OldK s₁.heap s'.heap ∧ s'.os = s₁.os ∧ AllBare s'.gens) s₁ := by
  have rv := vals_ints hi
  cases hk : K.lookup a with
  | some o =>
    have e := KX a o hk
    rw [ha] at e
    cases e
    have hO : Only (fun _ => none) := fun _ => .inl rfl
    exact law_at (H := fun _ => none) KX hns hb hbb hlim hg ha hr F hbind hO (fun b u z => nomatch (show (none : Option HO) = some u from z)) (fun b z => absurd rfl z) (fun z => absurd rfl z)
      (hsp _ hO (.inr ⟨_, vs.toArray, _, hk, rfl, rfl, rfl, by rw [List.size_toArray, hi.length]; exact hl, by simpa using rv⟩))
  | none =>
    have hO : Only (fun b => if b = a then some (HO.frz { cls := .type "list", data := .seq vs.toArray } (.lst (ns.map V.int))) else none) := fun b => by
      by_cases hb : b = a
      · exact .inr ⟨_, _, if_pos hb⟩
      · exact .inl (if_neg hb)
    refine law_at KX hns hb hbb hlim hg ha hr F hbind hO (fun b u z => ?_) (fun b z => ?_) (fun _ => hk) (hsp _ hO (.inl (.inr ⟨_, if_pos rfl⟩)))
    · by_cases hb : b = a
      · cases (if_pos hb).symm.trans z
        subst hb
        exact ⟨ha, by rw [List.length_map]; exact hl, vs, _, rv, ha⟩
      · cases (if_neg hb).symm.trans z
    · by_cases hb : b = a
      · exact hb
      · exact absurd (if_neg hb) z
end
theorem walk_G {l : PySem.W.OpenLaw} {n k : Nat} {q : Program} {loose : List Str} {XP : (Str → Option Value) → Heap → Prop} {YP : World → Heap → Prop} {d : DefRec} {K : Params → Frag} {sp : World → (Str → Option Value) → Sp} {x : Str}
    (hn : l.most = some n) (hn2 : n ≤ sizeLine) (hdf : d.params.defaults = []) (hr : Room k callerA) (hY : ∀ (w : World) (h : Heap), YP w h → (K w.params).In h)
    (F : ∀ (w : World) (mg : Str → Option Value) (fa : Addr) (h : Heap), (K w.params).In h → h.Ns mainGlobals mg → mg d.name = some (.ref fa) →
      ∃ fd : FuncData, (∀ (s : Shared) (u : Value), BindsTo s fd ⟨[u], []⟩ [(x, u)]) ∧ ∀ base : Heap, (K w.params).In base → base.Ns mainGlobals mg → FnG l.prog w (K w.params) mg base k fa fd [x] (sp w mg))
    (hsp : ∀ (w : World) (mg : Str → Option Value) (H : Hp) (a : Addr) (ns : List Int), ns.length ≤ n → Only H → SqL (K w.params) H a (ns.map V.int) → sp w mg [.ref a] H (fun v _ => v = .bl true) fun _ _ _ => False) :
    PySem.W.WalkO q loose XP YP l.row.toRowW d [] (fun f vs => PySem.call f vs) := by
  refine Att.attach_call hn hdf fun w s₀ s₁ mg mb fa o pm cd doc a vs ns G Y ho hd hcd hmg hobj hints hlen hg => ?_
  have KX := hY w _ Y
  obtain ⟨fd, hb, hF⟩ := F w mg fa _ KX G.T.g hmg
  exact law_callG KX G.T.g G.T.b G.T.builtins G.T.nolimit hg hobj hints (Nat.le_trans hlen hn2) hr hF hb fun H hO hS => hsp w mg H a ns hlen hO hS
end DL

set_option Elab.async false
set_option linter.all false
set_option maxRecDepth 100000
set_option maxHeartbeats 400000
namespace DL
open PySem PySem.Spec PyProof.Rows L2
open PySem.W (Frag)
variable [TB]

/-! ### what a def promises -/
abbrev DSp := List D → HM → DK → XDK → Prop
def HE0 (K : Frag) (mg : Str → Option Value) (M : HM) (H : Hp) (Ed : XDK) (E : XK) : Prop :=
  ∀ x M' H' cls dd, Ext M H M' H' → RH K mg M' H' → RX K mg M' H' x cls dd → Ed x (strip M') → E cls dd H'
def liftSp (K : Frag) (mg : Str → Option Value) (sp : DSp) : Sp := fun vs H Q E =>
  ∃ xs M Qd Ed, RVs K mg M H xs vs ∧ RH K mg M H ∧ sp xs (strip M) Qd Ed ∧ HQ K mg M H Qd Q ∧ HE0 K mg M H Ed E
/-- what is handed back may be looked at as a tree from now on; the def's own things are forgotten -/
inductive Fz : D → HM → D → HM → Prop where
  | sub {r : D} {M M' : HM} (h : ∀ b, M' b ≠ none → M' b = M b) : Fz r M r M'
  | lst {a : Addr} {ds : List D} {M : HM} (h : M a = some (.lst ds)) : Fz (.ref a) M (.lst ds) (mdel M a)
  | ins {a : Addr} {n : Str} {fs : List (Str × D)} {M : HM} (h : M a = some (.ins n fs)) : Fz (.ref a) M (.obj n fs) (mdel M a)
  | trans {r r' r'' : D} {M M' M'' : HM} (h : Fz r M r' M') (h' : Fz r' M' r'' M'') : Fz r M r'' M''
  /-- a part of it -/
  | tupAt {p q : List D} {r r' : D} {M M' : HM} (h : Fz r M r' M') : Fz (.tup (p ++ r :: q)) M (.tup (p ++ r' :: q)) M'
  | lstAt {p q : List D} {r r' : D} {M M' : HM} (h : Fz r M r' M') : Fz (.lst (p ++ r :: q)) M (.lst (p ++ r' :: q)) M'
  | objAt {n x : Str} {p q : List (Str × D)} {r r' : D} {M M' : HM} (h : Fz r M r' M') : Fz (.obj n (p ++ (x, r) :: q)) M (.obj n (p ++ (x, r') :: q)) M'
section
variable {K : Frag} {mg : Str → Option Value}
theorem mdel_ext {B : HM} {H : Hp} {a : Addr} (n : shy (B a) = false) : Ext B H (mdel B a) H := Ext.sub (fun b h => by
  by_cases hb : b = a
  · subst hb; exact absurd mdel_same h
  · exact mdel_ne hb) fun b h => by
  have hb : b ≠ a := fun z => by rw [z, n] at h; cases h
  rw [mdel_ne hb]
theorem strip_mdel' {B : HM} {a : Addr} : strip (mdel B a) = mdel (strip B) a := by
  funext b
  by_cases hb : b = a
  · subst hb; rw [mdel_same]; exact strip_none mdel_same
  · unfold strip; rw [mdel_ne hb, mdel_ne hb]
/-- the part of what may be changed that a def's end speaks of -/
def cut (B : HM) (M' : HM) : HM := fun b => if shy (B b) = true then B b else M' b
theorem cut_y {B M' : HM} {b : Addr} (e : shy (B b) = true) : cut B M' b = B b := by unfold cut; rw [if_pos e]
theorem cut_n {B M' : HM} {b : Addr} (e : ¬ shy (B b) = true) : cut B M' b = M' b := by unfold cut; rw [if_neg e]
theorem cut_ok {B M' : HM} (h : ∀ b, M' b ≠ none → M' b = strip B b) : (∀ b, cut B M' b ≠ none → cut B M' b = B b) ∧ (∀ b, shy (B b) = true → cut B M' b = B b) ∧ strip (cut B M') = M' := by
  refine ⟨fun b n => ?_, fun b e => cut_y e, ?_⟩
  · by_cases e : shy (B b) = true
    · rw [cut_y e]
    · rw [cut_n e] at n ⊢
      have := h b n
      cases q : M' b with
      | none => exact absurd q n
      | some o => rw [q] at this; exact (strip_some this.symm).symm
  · funext b
    by_cases e : shy (B b) = true
    · have : M' b = none := by
        cases q : M' b with
        | none => rfl
        | some o =>
          have := h b (by rw [q]; simp)
          rw [strip_y e, q] at this
          cases this
      rw [this]; exact strip_y (by rw [cut_y e]; exact e)
    · cases q : M' b with
      | none => exact strip_none (by rw [cut_n e]; exact q)
      | some o =>
        have z := h b (by rw [q]; simp)
        rw [q] at z
        have hb := strip_some z.symm
        refine strip_of (by rw [cut_n e]; exact q) ?_
        have := strip_shy z.symm
        rw [hb] at this
        exact this
theorem RVs.split {M : HM} {H : Hp} {r : D} : ∀ {p q : List D} {vs : List V}, RVs K mg M H (p ++ r :: q) vs → ∃ v, RV K mg M H r v ∧ ∀ {r' : D} {M' : HM}, Ext M H M' H → RV K mg M' H r' v → RVs K mg M' H (p ++ r' :: q) vs
  | [], _, _, .cons a b => ⟨_, a, fun e a' => .cons a' (b.ext e)⟩
  | _ :: p, _, _, .cons a b => by
    obtain ⟨v, h1, h2⟩ := RVs.split b
    exact ⟨v, h1, fun e a' => .cons (a.ext e) (h2 e a')⟩
theorem RVf.split {M : HM} {H : Hp} {x : Str} {r : D} : ∀ {p q : List (Str × D)} {vs : List (Str × V)}, RVf K mg M H (p ++ (x, r) :: q) vs → ∃ v, RV K mg M H r v ∧ ∀ {r' : D} {M' : HM}, Ext M H M' H → RV K mg M' H r' v → RVf K mg M' H (p ++ (x, r') :: q) vs
  | [], _, _, .cons a b => ⟨_, a, fun e a' => .cons a' (b.ext e)⟩
  | _ :: p, _, _, .cons a b => by
    obtain ⟨v, h1, h2⟩ := RVf.split b
    exact ⟨v, h1, fun e a' => .cons (a.ext e) (h2 e a')⟩
theorem fz_rel {r r' : D} {M M' : HM} (f : Fz r M r' M') : ∀ {B : HM} {H : Hp} {v : V}, strip B = M → RV K mg B H r v → RH K mg B H → ∃ B', strip B' = M' ∧ Ext B H B' H ∧ RH K mg B' H ∧ RV K mg B' H r' v := by
  induction f with
  | @sub r M M' h =>
    intro B H v e rv rh
    subst e
    obtain ⟨h1, h2, h3⟩ := cut_ok (B := B) h
    have ex : Ext B H (cut B M') H := Ext.sub h1 h2
    exact ⟨_, h3, ex, rh.sub h1 h2, rv.ext ex⟩
  | @lst a ds M h =>
    intro B H v e rv rh
    subst e
    have hb := strip_some h
    have nh : shy (B a) = false := by rw [hb]; rfl
    obtain ⟨vs, e1, r1⟩ := rh a _ hb
    cases rv
    have ex := mdel_ext (H := H) nh
    exact ⟨_, strip_mdel', ex, rh.mdel (fun q z => by rw [hb] at z; cases z), .lst mdel_same e1 (r1.ext ex)⟩
  | @ins a n fs M h =>
    intro B H v e rv rh
    subst e
    have hb := strip_some h
    have nh : shy (B a) = false := by rw [hb]; rfl
    obtain ⟨C, dx, vs, hc, e1, r1⟩ := rh a _ hb
    cases rv
    have ex := mdel_ext (H := H) nh
    exact ⟨_, strip_mdel', ex, rh.mdel (fun q z => by rw [hb] at z; cases z), .obj hc mdel_same e1 (r1.ext ex)⟩
  | trans _ _ ih1 ih2 =>
    intro B H v e rv rh
    obtain ⟨B1, e1, x1, rh1, rv1⟩ := ih1 e rv rh
    obtain ⟨B2, e2, x2, rh2, rv2⟩ := ih2 e1 rv1 rh1
    exact ⟨B2, e2, x1.trans x2, rh2, rv2⟩
  | tupAt _ ih =>
    intro B H v e rv rh
    cases rv with
    | tup h rs =>
      obtain ⟨v', a, g⟩ := rs.split
      obtain ⟨B', e1, x, rh', rv'⟩ := ih e a rh
      exact ⟨B', e1, x, rh', .tup (h.imp x.toExtR.rd id) (g x rv')⟩
  | lstAt _ ih =>
    intro B H v e rv rh
    cases rv with
    | lst hm h rs =>
      obtain ⟨v', a, g⟩ := rs.split
      obtain ⟨B', e1, x, rh', rv'⟩ := ih e a rh
      exact ⟨B', e1, x, rh', .lst (x.nm h hm) h (g x rv')⟩
  | objAt _ ih =>
    intro B H v e rv rh
    cases rv with
    | obj hc hm h rs =>
      obtain ⟨v', a, g⟩ := rs.split
      obtain ⟨B', e1, x, rh', rv'⟩ := ih e a rh
      exact ⟨B', e1, x, rh', .obj hc (x.nm h hm) h (g x rv')⟩
end
def RetK (Q : DK) : DK := fun r M => ∃ r' M', Fz r M r' M' ∧ Q r' M'
def RetX (E : XDK) : XD → DSt → HM → Prop := fun x _ M => ∃ M', (∀ b, M' b ≠ none → M' b = M b) ∧ E x M'
def ends (Q : DK) (E : XDK) : DEnds := { nx := fun _ M => RetK Q .non M, rt := RetK Q, ex := RetX E }
theorem RetK.of {Q : DK} {r : D} {M M' : HM} (h : ∀ b, M' b ≠ none → M' b = M b) (q : Q r M') : RetK Q r M := ⟨r, M', .sub h, q⟩
theorem RetK.here {Q : DK} {r : D} {M : HM} (q : Q r M) : RetK Q r M := ⟨r, M, .sub (fun _ _ => rfl), q⟩
def startD (n : Nat) (xs : List D) : DSt := xs.map some ++ List.replicate (n - xs.length) none
/-- a def of the module -/
structure DFn (P : Program) (w : World) (K : Frag) (mg : Str → Option Value) (base : Heap) (x : Str) (ps : List Str) (k : Nat) (sp : DSp) : Prop where
  ex : ∃ f fd, mg x = some (.ref f) ∧ PySem.W.keepIn K (.ref f) = true ∧ Binds K fd ps [] ∧ FnG P w K mg base k f fd ps (liftSp K mg sp)
def dCall (sp : DSp) (r : DTA) : DTE := fun σ M Q E => r σ M (fun xs M1 => sp xs M1 Q E) E
section
variable {X : Cx} {e : Expr} {es : List Expr} {r : DTA} {x : Str} {p pos : Pos} {ps : List Str} {k : Nat} {sp : DSp}
theorem lift_call {K : Frag} {mg : Str → Option Value} {W : WX} {σ : L2.St} {H : Hp} {Q : VK} (h : lift K mg W (dCall sp r) σ H Q) : tCallS (liftSp K mg sp) (WE W) (liftA K mg W r) σ H Q := by
  obtain ⟨σd, M, Qd, Ed, rs, rh, h, hE, hQ⟩ := h
  refine ⟨σd, M, _, Ed, rs, rh, h, hE, fun xs M1 vs H1 e1 rh1 r1 q1 => ⟨xs, M1, Qd, Ed, r1, rh1, q1, hQ.ext e1, ?_⟩⟩
  exact fun x M' H' cls dd e' rh' rx q => hE x M' H' cls dd (e1.trans e') rh' rx q
theorem de_call (F : DFn X.prog X.w X.K X.mg X.base x ps k sp) (hr : Room k X.A) (hG : X.A.guards = some []) (hg : Gl X x) (ha : DA X (e :: es) r) (hdb : (x == ("__debug__" : Str)) = false := by decide)
    (he : starEach (e :: es) X.env = (false, eval e X.env) :: starEach es X.env := by rfl) (hpl : (backTo pos (starEach es X.env)).any (·.1) = false := by rfl) : DE X (.Call (.Name x p) (e :: es) [] pos) (dCall sp r) := by
  obtain ⟨f, fd, hm, hk, hb, G⟩ := F.ex
  exact ⟨fun pn xe W tk => PE.weak (pe_callG (X := X.tr pn xe) G hr hG hg hm hk hb (fun σ => passAt tk.tk σ) (ha.run pn xe W tk) hdb he hpl) fun _ _ _ h => lift_call h⟩
theorem de_call0 (F : DFn X.prog X.w X.K X.mg X.base x ps k sp) (hr : Room k X.A) (hG : X.A.guards = some []) (hg : Gl X x) (hdb : (x == ("__debug__" : Str)) = false := by decide) : DE X (.Call (.Name x p) [] [] pos) (dCall sp dNil) := by
  obtain ⟨f, fd, hm, hk, hb, G⟩ := F.ex
  refine ⟨fun pn xe W tk => ⟨fun pins s σ H Q I h => ?_⟩⟩
  obtain ⟨σd, M, Qd, Ed, rs, rh, h, hE, hQ⟩ := h
  refine wpAny_Call_Name_kw (ld_glob I hg hm ?_ hdb)
  exact PySem.W.callWith_K0 I.kIn hk (run_fnG (X := X.tr pn xe) (us := []) (vs := []) (E := WE W) G hr hG hb (passAt tk.tk σ) I .nil ⟨[], M, Qd, Ed, .nil, rh, h, hQ, fun x M' H' cls dd e' rh' rx q => hE x M' H' cls dd e' rh' rx q⟩)
end
section
variable {P : Program} {w : World} {K : Frag} {mg : Str → Option Value} {base : Heap}
theorem rs_start {M : HM} {H : Hp} {N : List Str} {xs : List D} {vs : List V} (r : RVs K mg M H xs vs) : RS K mg M H (startD N.length xs) (L2.start N vs) := by
  have hl := r.length
  refine ⟨fun i d h => ?_, by unfold startD L2.start; simp [hl]⟩
  unfold startD at h
  by_cases hi : i < xs.length
  · rw [List.getElem?_append_left (by simpa using hi), List.getElem?_map] at h
    cases e : xs[i]? with
    | none => rw [e] at h; cases h
    | some z =>
      rw [e] at h
      cases h
      obtain ⟨v, e1, rv⟩ := r.getD e
      refine ⟨v, ?_, rv⟩
      unfold L2.start
      rw [List.getElem?_append_left (by rw [List.length_map, ← hl]; exact hi), List.getElem?_map, e1]
      rfl
  · rw [List.getElem?_append_right (by simpa using hi), List.getElem?_replicate] at h
    split at h <;> cases h
/-- THE RULE for a def: its body's rules, and what its body does at the promise -/
theorem fn_ok {x qual : Str} {st : Stmt} {f : Addr} {fd : FuncData} {N ps : List Str} {k : Nat} {sp : DSp} {d : DTS} (F : Fun K x qual st f fd) (S : FnScope N ps (defScope st))
    (hb : ∀ (cdv : Value) (A : Around) (outer : List Env) (s : Shared) (H : Hp) (E : XK), Room k (A.deeper (envOfC qual (defScope st) s.heap.objs.size f cdv)) → A.guards = some [] → DSs (cxOf (L2.CX P w) P w K mg base N qual (defScope st) f cdv A outer s H E) (defBody st) d)
    (hd : ∀ xs M Q E, sp xs M Q E → xs.length = ps.length ∧ d (ends Q E) (startD N.length xs) M) : FnG P w K mg base (k + 1) f fd ps (liftSp K mg sp) := by
  refine fnG_of F S (fun vs H Q E h => ?_) (fun cdv A outer s H vs Q E hr hG h => ?_)
  · obtain ⟨xs, M, Qd, Ed, r, rh, h, _, _⟩ := h
    rw [← r.length]
    exact (hd _ _ _ _ h).1
  · obtain ⟨xs, M, Qd, Ed, r, rh, h, hQ, hE⟩ := h
    have tk : Takes (cxOf (L2.CX P w) P w K mg base N qual (defScope st) f cdv A outer s H E) (fun cls d _ H => E cls d H) := takes_of rfl rfl rfl rfl
    refine ⟨_, (hb cdv A outer s H E hr hG).run [] _ _ ⟨tk, fun _ h => nomatch h⟩ (passes_of rfl), ?_⟩
    have fin : HQ K mg M H (RetK Qd) Q := fun r' M' v H' e' rh' rv ⟨r2, M2, fz, q⟩ => by
      obtain ⟨B, eB, x1, rh2, rv2⟩ := fz_rel fz rfl rv rh'
      exact hQ _ _ _ _ (e'.trans x1) rh2 rv2 (by rw [eB]; exact q)
    refine ⟨_, M, ends Qd Ed, rs_start r, rh, (hd _ _ _ _ h).2, ⟨fun σd' M' σ' H' e' rh' rs' q => fin _ _ _ _ e' rh' .non q, fin, fun _ _ _ _ _ _ _ q => q.elim, fun _ _ _ _ _ _ _ q => q.elim, ?_⟩⟩
    rintro x' σd' M' σ' H' cls dd e' rh' rs' rx ⟨M2, hs, q⟩
    obtain ⟨h1, h2, h3⟩ := cut_ok (B := M') hs
    have ex : Ext M' H' (cut M' M2) H' := Ext.sub h1 h2
    refine hE _ _ _ _ _ (e'.trans ex) (rh'.sub h1 h2) ⟨rx.1, ?_⟩ (by rw [h3]; exact q)
    have r2 := rx.2
    cases dd with
    | none => exact r2
    | some a =>
      obtain ⟨nf, vs, ha, hb, rf⟩ := r2
      exact ⟨nf, vs, ex.nm hb ha, hb, rf.ext ex⟩
/-! ### the law itself -/
def lawSp : DSp := fun xs M Q _ => ∃ ns : List Int, xs = [.lsf (ns.map .int)] ∧ ns.length ≤ 63 ∧ M = (fun _ => none) ∧ ∀ M', Q (.bl true) M'
theorem mem_lk {b : Addr} {x : Str} : ∀ {l : List (Addr × Str)}, l.lookup b = some x → (b, x) ∈ l
  | (c, y) :: l, h => by
    by_cases e : b = c
    · subst e
      rw [List.lookup_cons_self] at h
      cases h
      exact List.mem_cons_self
    · rw [List.lookup_cons, show (b == c) = false by simpa using e] at h
      exact List.mem_cons_of_mem _ (mem_lk h)
/-- the tables ahead of the law -/
def tabM : HM := fun b => (TB.T.lookup b).map .tab
theorem tabM_at (hu : ∀ p ∈ TB.T, ∀ q ∈ TB.T, p.1 = q.1 → p.2 = q.2) : ∀ p ∈ TB.T, tabM p.1 = some (.tab p.2) := fun p hp => by
  unfold tabM
  cases e : TB.T.lookup p.1 with
  | none =>
    have := List.lookup_eq_none_iff.mp e p hp
    simp at this
  | some x =>
    have := hu p hp (p.1, x) (mem_lk e) rfl
    rw [this]; rfl
theorem tabM_shy (b : Addr) : strip tabM b = none := by
  cases e : TB.T.lookup b with
  | none => exact strip_none (by unfold tabM; rw [e]; rfl)
  | some x => exact strip_y (by unfold tabM; rw [e]; rfl)
theorem law_lift {H : Hp} {a : Addr} {ns : List Int} (hu : ∀ p ∈ TB.T, ∀ q ∈ TB.T, p.1 = q.1 → p.2 = q.2) (hT : ∀ p ∈ TB.T, H p.1 = some (.tbl #[])) (hl : ns.length ≤ 63) (hs : SqL K H a (ns.map V.int)) : liftSp K mg lawSp [.ref a] H (fun v _ => v = .bl true) fun _ _ _ => False := by
  have ht : ∀ b q, tabM b = some (.tab q) → H b = some (.tbl #[]) := fun b q e => by
    unfold tabM at e
    cases z : TB.T.lookup b with
    | none => rw [z] at e; cases e
    | some x => exact hT (b, x) (mem_lk z)
  have hn : ∀ b o, tabM b = some o → ∃ q, o = .tab q := fun b o e => by
    unfold tabM at e
    cases z : TB.T.lookup b with
    | none => rw [z] at e; cases e
    | some x => rw [z] at e; exact ⟨x, (Option.some.inj e).symm⟩
  refine ⟨[.lsf (ns.map .int)], tabM, fun r _ => r = .bl true, fun _ _ => False, .cons (.lsf ?_ (RVs.of_ints ns)) .nil, ⟨fun b o e => ?_, tabM_at hu⟩, ⟨ns, rfl, hl, by funext b; exact tabM_shy b, fun _ => rfl⟩, ?_, fun _ _ _ _ _ _ _ _ z => z.elim⟩
  · rcases hs with hs | hs
    · refine .inl ⟨?_, hs⟩
      cases z : tabM a with
      | none => rfl
      | some o =>
        obtain ⟨q, rfl⟩ := hn _ _ z
        have e := ht _ _ z
        rcases hs with h | ⟨_, h⟩ <;> rw [e] at h <;> cases h
    · exact .inr hs
  · obtain ⟨q, rfl⟩ := hn _ _ e
    refine ⟨#[], ht _ _ e, True.intro, fun pos cv hc => ?_⟩
    simp [codeAmong] at hc
  · intro r M' v H' e rh rv q
    subst q
    cases rv
    rfl
end
end DL

set_option Elab.async false
set_option linter.all false
set_option maxRecDepth 100000
set_option maxHeartbeats 1000000
/-! a tuple times a number: once, or not at all -/
namespace L2
open PySem PySem.Spec PyProof.Rows
theorem tup_mul_same (l : Addr) (items : Array Value) (n : Nat) (dd : Option Addr) (sl : Array (Option Value)) (x : Int) (u : Tok) (c0 : (decide (x < -(2 ^ 63)) || decide (x ≥ 2 ^ 63)) = false) (c1 : (items.isEmpty || x == 1) = true) :
    Meets (Builtin.«tuple.__mul__» ⟨[.ref l, .int x u], []⟩) (fun _ R s => s.heap.get? l = some { cls := .type "tuple", dict := dd, data := .seq items n, slots := sl } ∧ R (.ok (.ret (Value.ref l))) s) :=
  .of_wp fun prog w A R s h => by
    obtain ⟨hp, g, d, tk, os⟩ := s
    obtain ⟨hl, h⟩ := h
    have f1 := AutoSeq1.idx_int
    wp_walk using wpAny_loadPart' hl
    repeat (first
      | (refine wpAny_ite_false (decide_eq_false (by rw [c0]; exact Bool.false_ne_true)) ?_; wp_walk using wpAny_loadPart' hl)
      | (refine wpAny_ite_true (decide_eq_true c1) ?_; wp_walk using wpAny_loadPart' hl))
    exact ⟨_, rfl, h⟩

theorem tup_mul_none (l : Addr) (items : Array Value) (n : Nat) (dd : Option Addr) (sl : Array (Option Value)) (x : Int) (u : Tok) (c0 : (decide (x < -(2 ^ 63)) || decide (x ≥ 2 ^ 63)) = false) (c1 : (items.isEmpty || x == 1) = false) (c2 : (decide (x ≤ 0) || items.isEmpty) = true) :
    Meets (Builtin.«tuple.__mul__» ⟨[.ref l, .int x u], []⟩) (fun _ R s => s.heap.get? l = some { cls := .type "tuple", dict := dd, data := .seq items n, slots := sl } ∧ R (.ok (.ret (Value.ref s.heap.objs.size))) { s with heap := s.heap.push { cls := Value.type "tuple", data := Data.seq #[] }, toks := s.toks }) :=
  .of_wp fun prog w A R s h => by
    obtain ⟨hp, g, d, tk, os⟩ := s
    obtain ⟨hl, h⟩ := h
    have f1 := AutoSeq1.idx_int
    wp_walk using wpAny_loadPart' hl
    repeat (first
      | (refine wpAny_ite_false (decide_eq_false (by rw [c0]; exact Bool.false_ne_true)) ?_; wp_walk using wpAny_loadPart' hl)
      | (refine wpAny_ite_false (decide_eq_false (by rw [c1]; exact Bool.false_ne_true)) ?_; wp_walk using wpAny_loadPart' hl)
      | (refine wpAny_ite_true (decide_eq_true c2) ?_; wp_walk using wpAny_loadPart' hl))
    exact ⟨_, rfl, h⟩

/-- a tuple times an int -/
def rMulT (K : PySem.W.Frag) : R2 := fun x y H Q => ∃ l k xs, x = .ref l ∧ y = .int k ∧ SqT K H l xs ∧ -(2 ^ 62) ≤ k ∧ k ≤ 1000000 ∧ xs.length * k.toNat ≤ 1000000 ∧ ((xs = [] ∨ k = 1) → Q (.ref l) H) ∧ (¬ (xs = [] ∨ k = 1) → ∀ p, H p = none → Q (.ref p) (upd H p (.tup (List.replicate k.toNat xs).flatten)))
section
variable {X : Cx}
theorem op_mulT : OpR X (binaryOp .Mult) (rMulT X.K) := by
  intro pins s σ H x y v u Q I rx ry h
  obtain ⟨l, k, xs, rfl, rfl, hT, h1, h2, hz, qs, qn⟩ := h
  cases rx
  obtain ⟨t, rfl⟩ := ry
  obtain ⟨its, r, ⟨⟨cls, dd, data, sl⟩, ho, hc, n, hd⟩, hs⟩ := I.tuple hT
  simp only at hc hd
  subst hc hd
  have hle : its.length = xs.length := r.length.symm
  have hsz0 : its.toArray.size = xs.length := by rw [List.size_toArray, hle]
  have he : its.toArray.isEmpty = xs.isEmpty := by
    cases r <;> rfl
  have c0 : (decide (k < -(2 ^ 63)) || decide (k ≥ 2 ^ 63)) = false := by
    rw [decide_eq_false (by omega), decide_eq_false (by omega)] <;> rfl
  refine wpAny_binaryOp_repeat_ref (T := "tuple") (U := "int") (by decide) ⟨_, ho, rfl⟩ (fun s' => typeIs_int s' k t) noFill_tuple_mul F.fills_int_mul F.slot_int_rmul repeat_tuple F.slot_int_index.lookup
    (call_meets F.slot_int_rmul (typeIs_int s k t) F.entry_int_rmul (F.args_int_rmul_2 _ _) (int_rmul_tuple k t l its.toArray n dd sl) ⟨ho, rfl, ⟨_, ho, rfl⟩, ?_⟩)
  by_cases c1 : (its.toArray.isEmpty || k == 1) = true
  · refine call_meets F.slot_tuple_mul ⟨_, ho, rfl⟩ F.entry_tuple_mul (F.args_tuple_mul_2 _ _) (tup_mul_same l its.toArray n dd sl k t c0 c1) ⟨ho, ?_⟩
    refine ⟨.ref l, H, I, rfl, qs ?_⟩
    rw [he, Bool.or_eq_true, List.isEmpty_iff, beq_iff_eq] at c1
    exact c1
  · have c1' : (its.toArray.isEmpty || k == 1) = false := Bool.eq_false_iff.mpr c1
    have hq := qn (by
      rw [he, Bool.or_eq_true, List.isEmpty_iff, beq_iff_eq] at c1
      exact c1)
    by_cases c2 : (decide (k ≤ 0) || its.toArray.isEmpty) = true
    · refine call_meets F.slot_tuple_mul ⟨_, ho, rfl⟩ F.entry_tuple_mul (F.args_tuple_mul_2 _ _) (tup_mul_none l its.toArray n dd sl k t c0 c1' c2) ⟨ho, ?_⟩
      have k0 : k.toNat = 0 := by
        rw [Bool.or_eq_false_iff] at c1'
        rw [c1'.1, Bool.or_false] at c2
        have := of_decide_eq_true c2
        omega
      rw [k0] at hq
      refine ⟨.ref s.heap.objs.size, _, I.laid (t' := s.toks) (o := .tup []) (fun b ob q => Heap.get?_push_of_some _ q) (Nat.le_refl _) ?_, rfl, hq _ (I.hok.fresh (Nat.le_refl _))⟩
      exact ⟨Nat.zero_le _, [], .nil, IsTup.new _ _⟩
    · have c2' : (decide (k ≤ 0) || its.toArray.isEmpty) = false := Bool.eq_false_iff.mpr c2
      have kp : 0 < k := by
        rw [Bool.or_eq_false_iff] at c2'
        have := of_decide_eq_false c2'.1
        omega
      have hm : ((its.toArray.size : Nat) : Int) * k ≤ 1000000 := by
        rw [hsz0]
        have : ((xs.length * k.toNat : Nat) : Int) ≤ 1000000 := Int.ofNat_le.mpr hz
        have e : ((xs.length * k.toNat : Nat) : Int) = (xs.length : Int) * k := by
          rw [Int.natCast_mul, Int.toNat_of_nonneg (by omega)]
        omega
      have flen : (List.replicate k.toNat its).flatten.length ≤ 1000000 := by
        rw [PyProof.Rows.lm_len_rep_flat, hle, Nat.mul_comm]
        exact hz
      have c4 : Builtin.Tuple.tupleTooMany (((its.toArray.size : Nat) : Int) * k) = false := by
        unfold Builtin.Tuple.tupleTooMany
        rw [sizeLine_eq]
        exact decide_eq_false (by omega)
      refine call_meets F.slot_tuple_mul ⟨_, ho, rfl⟩ F.entry_tuple_mul (F.args_tuple_mul_2 _ _) (tuple_mulW l its.toArray n dd sl k t c0 c1' c2' (by omega) c4 (by rw [size_rep, List.size_toArray, sizeLine_eq]; omega)) ⟨ho, ?_⟩
      rw [size_rep]
      refine ⟨.ref s.heap.objs.size, _, I.laid (t' := s.toks) (o := .tup (List.replicate k.toNat xs).flatten) (fun b ob q => Heap.get?_push_of_some _ q) (Nat.le_refl _) ?_, rfl, hq _ (I.hok.fresh (Nat.le_refl _))⟩
      have r2 := r.rep k.toNat
      exact ⟨by rw [r2.length, sizeLine_eq]; omega, _, r2, IsTup.new _ _⟩
end
end L2

set_option Elab.async false
set_option linter.all false
set_option maxRecDepth 100000
set_option maxHeartbeats 400000
namespace DL
open PySem PySem.Spec PyProof.Rows L2
open PySem.W (Frag)
variable [TB]

/-! ### * -/
def repD {α : Type} (k : Int) (xs : List α) : List α := (List.replicate k.toNat xs).flatten
theorem repD_one {α : Type} (xs : List α) : repD 1 xs = xs := by simp [repD]
theorem repD_nil {α : Type} (k : Int) : repD k ([] : List α) = [] := by simp [repD]
def fMul : DO2 := fun x y M Q => match x, y with
  | .int i, .int j => (i.natAbs ≤ 10 ^ 200 ∧ j.natAbs ≤ 10 ^ 200) ∧ Q (.int (i * j)) M
  | .tup xs, .int k => (-(2 ^ 62) ≤ k ∧ k ≤ 1000000 ∧ xs.length * k.toNat ≤ 1000000) ∧ Q (.tup (repD k xs)) M
  | x, .int k => (match trkOf M x with
    | some xs => (-(2 ^ 62) ≤ k ∧ k ≤ 1000000 ∧ xs.length * k.toNat ≤ 1000000) ∧ Q (.lst (repD k xs)) M
    | none => False)
  | _, _ => False
/-- a list times an int, to be changed -/
def fMulM : DO2 := fun x y M Q => match y with
  | .int k => (match trkOf M x with
    | some xs => (-(2 ^ 62) ≤ k ∧ k ≤ 1000000 ∧ xs.length * k.toNat ≤ 1000000) ∧ ∀ a, M a = none → Q (.ref a) (mup M a (.lst (repD k xs)))
    | none => False)
  | _ => False
section
variable {X : Cx}
theorem mul_ok {i j : Int} (h : i.natAbs ≤ 10 ^ 200 ∧ j.natAbs ≤ 10 ^ 200) : CMulW i j :=
  wide_mul (a := 1000) (b := 1000) (Nat.lt_of_le_of_lt h.1 (by decide +kernel)) (Nat.lt_of_le_of_lt h.2 (by decide +kernel)) (by decide) (by decide) (by decide)
theorem op_fMul : DOp X (binaryOp .Mult) fMul := by
  intro pn xe pins s σ H v u v' u' Q I rv ru h
  obtain ⟨x, y, M, Qd, rx, ry, rh, h, hQ⟩ := h
  unfold fMul at h
  split at h
  · cases rx; cases ry
    exact op_mulW (X := X.tr pn xe) pins s σ H _ _ v' u' Q I rv ru ⟨_, _, rfl, rfl, mul_ok h.1, hQ _ _ _ _ .refl rh .int h.2⟩
  · rename_i xs k
    cases ry
    have rx' := rx
    cases rx with
    | tup ha rs =>
      refine op_mulT (X := X.tr pn xe) pins s σ H _ _ v' u' Q I rv ru ⟨_, k, _, rfl, rfl, sqT ha, h.1.1, h.1.2.1, by rw [← rs.length]; exact h.1.2.2, fun e => ?_, fun _ p hp => hQ.tup rh hp (rs.rep k.toNat) h.2⟩
      have q := h.2
      have e2 : repD k xs = xs := by
        rcases e with e | e
        · rw [rs.nil_iff.mp e, repD_nil]
        · rw [e, repD_one]
      rw [e2] at q
      exact hQ _ _ _ _ .refl rh rx' q
  · split at h
    · rename_i xs e1
      cases ry
      obtain ⟨a, vs, rfl, ha, rs⟩ := trk_of rh rx e1
      exact op_rep (X := X.tr pn xe) pins s σ H _ _ v' u' Q I rv ru ⟨a, _, vs, rfl, rfl, ha, by omega, by omega, by rw [← rs.length]; exact le_line h.1.2.2, fun p hp => hQ.lst rh hp (rs.rep _) h.2⟩
    · exact h.elim
  · exact h.elim
theorem op_fMulM : DOp X (binaryOp .Mult) fMulM := by
  intro pn xe pins s σ H v u v' u' Q I rv ru h
  obtain ⟨x, y, M, Qd, rx, ry, rh, h, hQ⟩ := h
  unfold fMulM at h
  split at h
  · split at h
    · rename_i xs e1
      cases ry
      obtain ⟨a, vs, rfl, ha, rs⟩ := trk_of rh rx e1
      exact op_rep (X := X.tr pn xe) pins s σ H _ _ v' u' Q I rv ru ⟨a, _, vs, rfl, rfl, ha, by omega, by omega, by rw [← rs.length]; exact le_line h.1.2.2, fun p hp => hQ.lstM rh hp (rs.rep _) (h.2 p (strip_none (rh.free hp)))⟩
    · exact h.elim
  · exact h.elim

/-! ### op= -/
def iAddI : DO2 := ii fun i j M Q => Q (.int (i + j)) M
def iSubI : DO2 := ii fun i j M Q => Q (.int (i - j)) M
theorem op_iAddI : DOp X (inplaceOp .Add) iAddI := by
  intro pn xe pins s σ H v u v' u' Q I rv ru h
  obtain ⟨x, y, M, Qd, rx, ry, rh, h, hQ⟩ := h
  unfold iAddI ii at h
  split at h
  · cases rx; cases ry
    exact ip_add (X := X.tr pn xe) pins s σ H _ _ v' u' Q I rv ru ⟨_, _, rfl, rfl, hQ _ _ _ _ .refl rh .int h⟩
  · exact h.elim
theorem op_iSubI : DOp X (inplaceOp .Sub) iSubI := by
  intro pn xe pins s σ H v u v' u' Q I rv ru h
  obtain ⟨x, y, M, Qd, rx, ry, rh, h, hQ⟩ := h
  unfold iSubI ii at h
  split at h
  · cases rx; cases ry
    exact ip_sub (X := X.tr pn xe) pins s σ H _ _ v' u' Q I rv ru ⟨_, _, rfl, rfl, hQ _ _ _ _ .refl rh .int h⟩
  · exact h.elim
/-! ### xs[i] op= e -/
def fGet (o i : D) (M : HM) (Q : DK) : Prop := match o with
  | .ref a => (match M a with
    | some (.lst ds) => ∃ k d, i = .int k ∧ 0 ≤ k ∧ k < 2 ^ 63 ∧ ds[k.toNat]? = some d ∧ Q d M
    | _ => False)
  | _ => False
theorem get_D : ∀ pn xe, PGet (X.tr pn xe) (fun o i H Q => ∃ od id M Qd, RV X.K X.mg M H od o ∧ RV X.K X.mg M H id i ∧ RH X.K X.mg M H ∧ fGet od id (strip M) Qd ∧ HQ X.K X.mg M H Qd Q) := by
  intro pn xe pins s σ H o i ov iv Q I ro ri h
  obtain ⟨od, id, M, Qd, rod, rid, rh, h, hQ⟩ := h
  unfold fGet at h
  split at h
  · split at h
    · rename_i a _ ds em
      obtain ⟨k, d, rfl, h0, h1, hd, q⟩ := h
      cases rod
      cases rid
      obtain ⟨vs, eh, rvs⟩ := rh a _ (strip_some em)
      cases ro
      obtain ⟨t, rfl⟩ := ri
      obtain ⟨v, hv, rv⟩ := rvs.getD hd
      obtain ⟨its, rl, pl, hz⟩ := I.list (SqL.of eh)
      obtain ⟨u, hu, ru⟩ := rl.get hv
      exact wpAny_getItem_list (items := its.toArray) pl.isList h0 h1 (by simpa using hu) ⟨v, H, I, ru, hQ _ _ _ _ .refl rh rv q⟩
    · exact h.elim
  · exact h.elim
def dAugS (a b : DTE) (e : DTE) (od : DO2) : DTS := fun D σ M => a σ M (fun o M1 => b σ M1 (fun i M2 => fGet o i M2 fun x M3 => e σ M3 (fun y M4 => od x y M4 fun z M5 => fSet o i z M5 fun M6 => D.nx σ M6) (fun x M1 => D.ex x σ M1)) (fun x M1 => D.ex x σ M1)) (fun x M1 => D.ex x σ M1)
theorem ds_augS {o i e : Expr} {a b d : DTE} {op : Operator} {od : DO2} {tpos pos : Pos} (hu : X.A.units + 1 < cLine) (hop : DOp X (inplaceOp op) od) (ho : DE X o a) (hi : DE X i b) (he : DE X e d)
    (ha : ∀ ov iv new, augStore i ov iv new = (do holding [new, ov, iv] (setItem ov iv new); release [new, ov, iv] []; pure .next) := by intros; rfl) : DS X (.AugAssign (.Subscript o i tpos) op e pos) (dAugS a b d od) := by
  refine ⟨fun pn xe W tk po => PS.weak (ps_augS (X := X.tr pn xe) (ho.run pn xe W tk) (hi.run pn xe W tk) (get_D pn xe) (he.run pn xe W tk) (hop pn xe) (set_D hu pn xe) ha) ?_⟩
  rintro σ H D ⟨σd, M, Dd, rs, rh, h, hD⟩
  refine ⟨σd, M, _, _, rs, rh, h, hD.ex.he rs, fun od M1 o' H1 e1 rh1 r1 q1 => ?_⟩
  refine ⟨σd, M1, _, _, rs.ext e1, rh1, q1, (hD.ex.ext e1).he (rs.ext e1), fun id M2 i' H2 e2 rh2 r2 q2 => ?_⟩
  have e12 := e1.trans e2
  refine ⟨od, id, M2, _, r1.ext e2, r2, rh2, q2, fun x M3 x' H3 e3 rh3 r3 q3 => ?_⟩
  have e13 := e12.trans e3
  refine ⟨σd, M3, _, _, rs.ext e13, rh3, q3, (hD.ex.ext e13).he (rs.ext e13), fun y M4 y' H4 e4 rh4 r4 q4 => ?_⟩
  have e14 := e13.trans e4
  refine ⟨x, y, M4, _, r3.ext e4, r4, rh4, q4, fun z M5 z' H5 e5 rh5 r5 q5 => ?_⟩
  have e15 := e14.trans e5
  exact ⟨od, id, z, M5, _, ((((r1.ext e2).ext e3).ext e4).ext e5), (((r2.ext e3).ext e4).ext e5), r5, rh5, q5, fun M' H' e' rh' q => hD.nx _ _ _ _ (e15.trans e') rh' (rs.ext (e15.trans e')) q⟩
end

/-! ### repr -/
def rpOk (d : D) : Prop := okD d = true ∧ (toPy d).showable = true ∧ (toPy d).shown.length ≤ 1000000
def fRepr : DCo := fun xs M Q => match xs with
  | [x] => rpOk (rd M x) ∧ Q (.str (toPy (rd M x)).shown) M
  | _ => False
theorem noDict_of {d : D} (h : isD d = true) : (toPy d).hasDict = false := PyData.hasDict_of_canLay _ (canLay_toPy d h)
theorem c_repr {X : Cx} (hG : X.A.guards = some []) (hu : X.A.units + 66 < cLine) : DCall X (.builtin "repr") fRepr := by
  intro pn xe pins s σ H vs us Q I rv h
  obtain ⟨xs, M, Qd, rx, rh, h, hQ⟩ := h
  unfold fRepr at h
  split at h
  · obtain ⟨v, rfl, r⟩ := rx.one
    obtain ⟨⟨ho, hs, hz⟩, q⟩ := h
    obtain ⟨u, rfl, ru⟩ := rv.one
    have dp := dp_rd rh r (isD_of ho)
    obtain ⟨as, rr⟩ := Dp.reads I _ _ _ dp ru
    have hd : (toPy (DL.rd (strip M) _)).depth ≤ 64 := of_decide_eq_true (Bool.and_eq_true_iff.mp ho).2
    have fin : ∀ h' uu tk, (∀ b o, s.heap.get? b = some o → h'.get? b = some o) → EP (X.tr pn xe) pins σ Q (.str (toPy (DL.rd (strip M) _)).shown uu) { s with heap := h', toks := tk } := fun h' uu tk hk =>
      ⟨.str _, H, I.kept (t' := tk) hk, ⟨_, rfl⟩, hQ _ _ _ _ .refl rh .str q⟩
    have nd := noDict_of (isD_of ho)
    have hz' := le_line hz
    have hG' : (X.tr pn xe).A.guards = some [] := hG
    have hu' : (X.tr pn xe).A.units + 66 < cLine := hu
    generalize toPy (DL.rd (strip M) _) = py at *
    cases rr with
    | none => exact PySem.P.repr_of_none (by simpa only [PyData.shown] using fin _ _ _ fun _ _ e => e)
    | bool b => exact PySem.P.repr_of_bool (by simpa only [PyData.shown] using fin _ _ _ fun _ _ e => e)
    | int i t => exact PySem.P.repr_of_int (by simpa [PyData.showable] using hs) (by simpa only [PyData.shown] using fin _ _ _ fun _ _ e => e)
    | str x t => exact PySem.P.repr_of_str (by simpa only [PyData.shown] using fin _ _ _ fun _ _ e => e) (by simpa only [PyData.shown] using hz')
    | list h1 h2 h3 h4 => exact repr_of_reads' (.list h1 h2 h3 h4) hs (fun z => by rw [nd] at z; cases z) hG' (by omega) (fun _ _ e => e) fin hz'
    | tuple h1 h2 h3 h4 => exact repr_of_reads' (.tuple h1 h2 h3 h4) hs (fun z => by rw [nd] at z; cases z) hG' (by omega) (fun _ _ e => e) fin hz'
    | dict => cases nd
  · exact h.elim
end DL

set_option Elab.async false
set_option linter.all false
set_option maxRecDepth 100000
set_option maxHeartbeats 400000
namespace DL
open PySem PySem.Spec PyProof.Rows L2
open PySem.W (Frag)
variable [TB]

/-! ### {k: v, ..}, a dict to be changed -/
def dPairs : List (DTE × DTE) → DSt → HM → (List (D × D) → HM → Prop) → Prop
  | [], _, M, Q => Q [] M
  | (k, v) :: r, σ, M, Q => k σ M (fun x M1 => v σ M1 (fun y M2 => dPairs r σ M2 fun ps M3 => Q ((x, y) :: ps) M3) fun _ _ => False) fun _ _ => False
structure DPs (X : Cx) (pos : Pos) (keys : List (Option Expr)) (values : List Expr) (ds : List (DTE × DTE)) : Prop where
  run : ∀ (pn : List (Addr × Obj)) (xe : Value → Shared → Prop) (W : WX), Tk X pn xe W → PPs (X.tr pn xe) pos keys values (ds.map fun p => (lift X.K X.mg W p.1, lift X.K X.mg W p.2))
section
variable {X : Cx} {pos : Pos} {k v : Expr} {keys : List (Option Expr)} {values : List Expr} {ds : List (DTE × DTE)} {dk dv : DTE}
theorem dps_nil : DPs X pos [] [] [] := ⟨fun _ _ _ _ => pps_nil⟩
theorem dps_cons (hk : DE X k dk) (hv : DE X v dv) (hr : DPs X pos keys values ds) : DPs X pos (some k :: keys) (v :: values) ((dk, dv) :: ds) :=
  ⟨fun pn xe W tk => pps_cons (hk.run pn xe W tk) (hv.run pn xe W tk) (hr.run pn xe W tk)⟩
end
inductive RPs (K : Frag) (mg : Str → Option Value) (M : HM) (H : Hp) : List (D × D) → List (V × V) → Prop where
  | nil : RPs K mg M H [] []
  | cons {x y : D} {v u : V} {ps : List (D × D)} {vs : List (V × V)} (a : RV K mg M H x v) (b : RV K mg M H y u) (r : RPs K mg M H ps vs) : RPs K mg M H ((x, y) :: ps) ((v, u) :: vs)
theorem lift_pairs {K : Frag} {mg : Str → Option Value} {W : WX} : ∀ (ds : List (DTE × DTE)) {σd : DSt} {σ : L2.St} {M : HM} {H : Hp} {Qd : List (D × D) → HM → Prop} {Q : List (V × V) → Hp → Prop}, RS K mg M H σd σ → RH K mg M H → dPairs ds σd (strip M) Qd →
    (∀ ps M' vs H', Ext M H M' H' → RH K mg M' H' → RPs K mg M' H' ps vs → Qd ps (strip M') → Q vs H') → tPairs (ds.map fun p => (lift K mg W p.1, lift K mg W p.2)) σ H Q
  | [], _, _, M, H, _, _, rs, rh, h, hQ => hQ [] M [] H .refl rh .nil h
  | (dk, dv) :: r, σd, σ, M, H, Qd, Q, rs, rh, h, hQ => by
    refine ⟨σd, M, _, _, rs, rh, h, HE.none, fun x M1 v H1 e1 rh1 r1 q1 => ?_⟩
    refine ⟨σd, M1, _, _, rs.ext e1, rh1, q1, HE.none, fun y M2 u H2 e2 rh2 r2 q2 => ?_⟩
    refine lift_pairs r ((rs.ext e1).ext e2) rh2 q2 fun ps M3 vs H3 e3 rh3 r3 q3 => ?_
    exact hQ _ M3 _ H3 ((e1.trans e2).trans e3) rh3 (.cons ((r1.ext e2).ext e3) (r2.ext e3) r3) q3
def keyPs : List (D × D) → Option (List (Key × D))
  | [] => some []
  | (k, v) :: r => match keyOf k, keyPs r with
    | some a, some l => some ((a, v) :: l)
    | _, _ => none
def mergeD (kvs : List (Key × D)) (more : List (Key × D)) : List (Key × D) := more.foldl (fun acc kv => putD acc kv.1 kv.2) kvs
def dDisp (ds : List (DTE × DTE)) : DTE := fun σ M Q _ => dPairs ds σ M fun ps M2 => ∃ kvs, keyPs ps = some kvs ∧ kvs.length ≤ 15 ∧ ∀ a, M2 a = none → Q (.ref a) (mup M2 a (.dK (mergeD [] kvs)))
section
variable {K : Frag} {mg : Str → Option Value} {M : HM} {H : Hp}
theorem keys_rel : ∀ {ps : List (D × D)} {vs : List (V × V)} {kvs : List (Key × D)}, RPs K mg M H ps vs → keyPs ps = some kvs → ∃ us, vs = ((kvs.map (·.1)).zip us).map (fun kv => (kV kv.1, kv.2)) ∧ RVs K mg M H (kvs.map (·.2)) us
  | _, _, _, .nil, e => by cases e; exact ⟨[], rfl, .nil⟩
  | _, _, _, .cons (x := x) (y := y) (v := v) (u := u) (ps := ps) a b r, e => by
    unfold keyPs at e
    split at e
    · rename_i k l ek el
      cases e
      obtain ⟨us, e1, r1⟩ := keys_rel r el
      refine ⟨u :: us, ?_, .cons b r1⟩
      rw [key_rel a ek, e1]
      rfl
    · cases e
theorem merge_zip : ∀ {more acc : List (Key × D)} {vs us : List V}, RVs K mg M H (acc.map (·.2)) vs → RVs K mg M H (more.map (·.2)) us →
    ∃ ws, mergeK ((acc.map (·.1)).zip vs) ((more.map (·.1)).zip us) = ((mergeD acc more).map (·.1)).zip ws ∧ RVs K mg M H ((mergeD acc more).map (·.2)) ws
  | [], acc, vs, us, r, _ => ⟨vs, rfl, r⟩
  | p :: more, acc, vs, _, r, r2 => by
    cases r2 with
    | @cons _ v _ us h t =>
      obtain ⟨ws, e1, r1⟩ := put_zip (k := p.1) h r
      obtain ⟨zs, e2, r3⟩ := merge_zip (acc := putD acc p.1 p.2) r1 t
      refine ⟨zs, ?_, r3⟩
      show mergeK (putK ((acc.map (·.1)).zip vs) p.1 v) ((more.map (·.1)).zip us) = _
      rw [e1]
      exact e2
end
theorem de_disp {X : Cx} {pos : Pos} {keys : List (Option Expr)} {values : List Expr} {ds : List (DTE × DTE)} (h : DPs X pos keys values ds) (hall : keys.all (·.isSome) = true := by rfl) (hl : keys.length = values.length := by rfl) (h0 : keys ≠ [] := by simp)
    (h15 : keys.length ≤ 15 := by decide) : DE X (.Dict keys values pos) (dDisp ds) := by
  refine ⟨fun pn xe W tk => PE.weak (pe_disp (h.run pn xe W tk) hall hl h0 h15) ?_⟩
  rintro σ H Q ⟨σd, M, Qd, Ed, rs, rh, h, hE, hQ⟩
  intro p hp
  have hm := rh.free hp
  have e0 : ExtW M H (mup M p .hid) (upd H p (.dK [])) := ExtW.hide hp hm
  refine lift_pairs ds (rs.extw e0.toExtR) (rh.hide hp) (by rw [strip_hide hm]; exact h) fun ps B vs H2 e2 rh2 rp q => ?_
  obtain ⟨kvs, ek, hlen, q⟩ := q
  obtain ⟨us, ev, rus⟩ := keys_rel rp ek
  have hB : B p = some .hid := (e2.hid p).mpr mup_same
  have hB0 : (mup M p .hid) p = some .hid := mup_same
  have hH2 : H2 p = some (.dK []) := e2.hk _ _ upd_same hB0
  refine ⟨hH2, (kvs.map (·.1)).zip us, ev, by rw [List.length_zip, List.length_map]; omega, ?_⟩
  obtain ⟨ws, e3, r3⟩ := merge_zip (acc := []) (vs := []) .nil rus
  have e3' : mergeK [] ((kvs.map (·.1)).zip us) = ((mergeD [] kvs).map (·.1)).zip ws := e3
  rw [e3']
  have nh : shy (some (MO.dK (mergeD [] kvs))) = false := rfl
  have hh : ∀ b, B b = some .hid ↔ (M b = some .hid ∨ b = p) := fun b => (e2.hid b).trans (by
    by_cases hb : b = p
    · subst hb; rw [mup_same]; exact ⟨fun _ => .inr rfl, fun _ => rfl⟩
    · rw [mup_ne hb]; exact ⟨.inl, fun z => z.elim id fun z => absurd z hb⟩)
  have ew : ExtW M H B (upd H2 p (.dK (((mergeD [] kvs).map (·.1)).zip ws))) := (e0.trans e2.toExtW).wrHid hp
  have rhB := rh2.wrHid (o := .dK (((mergeD [] kvs).map (·.1)).zip ws)) hB
  have sB : strip B p = none := strip_y (by rw [hB]; rfl)
  have eu := Ext.unhideM hp hm nh ew hh
  refine hQ _ _ _ _ eu ⟨fun b o eb => ?_, fun p hp => eu.tb _ _ (rh.tb p hp)⟩ .ref (by rw [strip_mup nh]; exact q p sB)
  by_cases hb : b = p
  · subst hb
    rw [mup_same] at eb
    cases eb
    exact ⟨ws, upd_same, (r3.extw (ExtR.wrHid hB)).extw (extr_mupH hB)⟩
  · rw [mup_ne hb] at eb
    exact (rhB b o eb).extw (extr_mupH hB) rfl
end DL

set_option Elab.async false
set_option linter.all false
set_option maxRecDepth 100000
set_option maxHeartbeats 400000
namespace DL
open PySem PySem.Spec PyProof.Rows L2
open PySem.W (Frag)
variable [TB]

/-! ### -e -/
def dNeg (d : DTE) : DTE := fun σ M Q E => d σ M (fun x M1 => match x with
  | .int i => Q (.int (-i)) M1
  | _ => False) E
theorem de_neg {X : Cx} {e : Expr} {d : DTE} {pos : Pos} (h : DE X e d) : DE X (.UnaryOp .USub e pos) (dNeg d) := by
  refine ⟨fun pn xe W tk => PE.weak (pe_un (un_neg (X := X.tr pn xe)) (h.run pn xe W tk)) ?_⟩
  rintro σ H Q ⟨σd, M, Qd, Ed, rs, rh, h, hE, hQ⟩
  refine ⟨σd, M, _, Ed, rs, rh, h, hE, fun x M1 v H1 e1 rh1 r1 q1 => ?_⟩
  dsimp only at q1
  split at q1
  · cases r1
    exact ⟨_, rfl, hQ _ _ _ _ e1 rh1 .int q1⟩
  · exact q1.elim
/-! ### y = [.. for ..] -/
section
variable {X : Cx} {elt tg iter : Expr} {ifs : List Expr} {scope : Scope} {own : List (Str × Nat)} {pos spos py : Pos} {di : DTI} {tgt : DTgt} {g : TG} {tc : DTT} {de : DTE} {i : Nat} {y : Str}
theorem ds_setComp (hc : X.calm = true) (hN : X.N.Nodup) (hi : DI X tg iter di) (ok : blkC X.N X.env.scope scope own = true) (ht : TgOk X.K X.mg g tgt (own.map (·.2)))
    (hg : ∀ (s : Shared) (H : Hp) (C : Addr) (cl : List (Str × Addr)) (fp : List Addr), PG (X.blk s H scope (compEnvC scope cl C X.env) fp) tg g)
    (hts : ∀ (s : Shared) (H : Hp) (C : Addr) (cl : List (Str × Addr)) (fp : List Addr), DTs (X.blk s H scope (compEnvC scope cl C X.env) fp) ifs tc)
    (he : ∀ (s : Shared) (H : Hp) (C : Addr) (cl : List (Str × Addr)) (fp : List Addr), DE (X.blk s H scope (compEnvC scope cl C X.env) fp) elt de)
    (hy : X.N[i]? = some y := by rfl) (hyl : X.env.scope.names.lookup y = some .local := by rfl) (hk : X.env.scope.kind = .function := by rfl) (hl : (py.line == spos.line && spos.line == pos.line) = true := by rfl)
    (ha : (scope.names.any fun (n, k) => n == y && (k == .local || k == .cell)) = false := by decide +kernel) (hs : ∀ x, foldedSetIterable iter X.env x = pure x := by intro _; rfl) :
    DS X (.Assign [.Name y py] (.ListComp elt [⟨tg, iter, ifs, 0⟩] scope pos) spos) (dAsg (dComp di tgt tc de (own.map (·.2))) (dgName i)) := by
  have hsw : swapsWith (.ListComp elt [⟨tg, iter, ifs, 0⟩] scope pos) (some (.Name y py)) spos.line X.env = pure true := by
    rw [Bool.and_eq_true] at hl
    have e : spos.line = pos.line := by simpa using hl.2
    exact sw_true hk hyl (by rw [← e]; exact hl.1) ha
  refine ⟨fun pn xe W tk po => PS.weak (ps_setLc (X := X.tr pn xe) (own := own) (g := g) (te := lift X.K X.mg (fun _ _ _ _ => False) de) (tt := liftT X.K X.mg (fun _ _ _ _ => False) tc) hc hN hy hyl hsw (hi.run pn xe W tk) (blkOk_by ok) hg (fun s H C cl fp => (hts s H C cl fp).run rfl) (fun s H C cl fp => (he s H C cl fp).run [] (fun _ _ => False) (fun _ _ _ _ => False) ⟨takes0, fun _ z => nomatch z⟩) hs) ?_⟩
  rintro σ H D ⟨σd, M, Dd, rs, rh, h, hD⟩
  refine ⟨σd, M, _, _, rs, rh, h, hD.ex.he rs, fun ds M1 H1 J e1 rh1 wk q1 => fun C hC => ?_⟩
  refine comp_turns (Qf := fun H' => gName i (.ref C) σ H' D.nx) ht wk (rs.ext e1) rh1 hC q1.1 q1.2 fun acc B H' us e hh rhB hHD rus q => ?_
  have hB : B C = some .hid := (hh C).mpr (.inr rfl)
  have eu := e1.trans (Ext.unhide hC (rh1.free hC) e hh)
  exact hD.nx _ _ _ _ eu (rhB.mdel fun q z => by rw [hB] at z; cases z) ((rs.ext eu).set (.lst mdel_same hHD (rus.extw extr_mdel)) i) (by rw [strip_mdel hB]; exact q)
end
/-! ### a list that is to be changed no more -/
def dFrz (d : DTE) : DTE := fun σ M Q E => d σ M (fun x M1 => ∃ a ds, x = .ref a ∧ M1 a = some (.lst ds) ∧ Q (.lst ds) (mdel M1 a)) E
theorem de_frz {X : Cx} {e : Expr} {d : DTE} (h : DE X e d) : DE X e (dFrz d) := by
  refine ⟨fun pn xe W tk => PE.weak (h.run pn xe W tk) ?_⟩
  rintro σ H Q ⟨σd, M, Qd, Ed, rs, rh, h, hE, hQ⟩
  refine ⟨σd, M, _, Ed, rs, rh, h, hE, fun x M1 v H1 e1 rh1 r1 q1 => ?_⟩
  obtain ⟨a, ds, rfl, hm, q⟩ := q1
  cases r1
  have hb := strip_some hm
  obtain ⟨vs, hv, rv⟩ := rh1 a _ hb
  have ex := mdel_ext (H := H1) (B := M1) (a := a) (by rw [hb]; rfl)
  exact hQ _ _ _ _ (e1.trans ex) (rh1.mdel fun q z => by rw [hb] at z; cases z) (.lst mdel_same hv (rv.ext ex)) (by rw [strip_mdel']; exact q)
/-! ### the built-ins -/
theorem bb_len : bootBuiltins "len" = some (.builtin "len") := by decide +kernel
theorem bb_int : bootBuiltins "int" = some (.type "int") := by decide +kernel
theorem bb_str : bootBuiltins "str" = some (.type "str") := by decide +kernel
theorem bb_bool : bootBuiltins "bool" = some (.type "bool") := by decide +kernel
theorem bb_bytes : bootBuiltins "bytes" = some (.type "bytes") := by decide +kernel
theorem bb_dict : bootBuiltins "dict" = some (.type "dict") := by decide +kernel
theorem bb_tuple : bootBuiltins "tuple" = some (.type "tuple") := by decide +kernel
theorem bb_list : bootBuiltins "list" = some (.type "list") := by decide +kernel
theorem bb_max : bootBuiltins "max" = some (.builtin "max") := by decide +kernel
theorem bb_min : bootBuiltins "min" = some (.builtin "min") := by decide +kernel
theorem bb_sum : bootBuiltins "sum" = some (.builtin "sum") := by decide +kernel
theorem bb_all : bootBuiltins "all" = some (.builtin "all") := by decide +kernel
theorem bb_any : bootBuiltins "any" = some (.builtin "any") := by decide +kernel
theorem bb_isinstance : bootBuiltins "isinstance" = some (.builtin "isinstance") := by decide +kernel
theorem bb_repr : bootBuiltins "repr" = some (.builtin "repr") := by decide +kernel
/-! ### what the top has made -/
structure Raw (K : Frag) (mg : Str → Option Value) (x : Str) (st : Stmt) (f : Addr) (fd : FuncData) : Prop where
  m : mg x = some (.ref f)
  k : PySem.W.keepIn K (.ref f) = true
  F : Fun K x x st f fd
theorem raw_mk {K : Frag} {h : Heap} {mg : Str → Option Value} {x : Str} {st : Stmt} {f : Addr} {od an : Option Addr} {sl : Array (Option Value)} {oc kV dc pm cd ct : Value} (X : K.In h) (G : h.Ns mainGlobals mg) (a : PySem.W.nsIn K mainGlobals x = some (some (.ref f)))
    (l : K.lookup f = some ⟨oc, od, .func (PySem.W.fnOf x x (defArgs st) (defBody st) (defScope st) .none kV dc pm an cd ct), sl⟩) (c : PySem.W.codeIn K cd x = true) (k : PySem.W.keepIn K (.ref f) = true) : Raw K mg x st f (PySem.W.fnOf x x (defArgs st) (defBody st) (defScope st) .none kV dc pm an cd ct) :=
  ⟨PySem.W.mg_of X G a, k, fun_mk l c k⟩
theorem dfn_mk {P : Program} {w : World} {K : Frag} {mg : Str → Option Value} {base : Heap} {x : Str} {st : Stmt} {f : Addr} {fd : FuncData} {ps : List Str} {k : Nat} {sp : DSp} (R : Raw K mg x st f fd) (b : Binds K fd ps []) (G : FnG P w K mg base k f fd ps (liftSp K mg sp)) : DFn P w K mg base x ps k sp :=
  ⟨f, fd, R.m, R.k, b, G⟩
theorem units_of {k : Nat} {A : Around} (h : Room k A) : A.units + 200 < cLine := by have := h.un; omega
end DL

set_option Elab.async false
set_option linter.all false
set_option maxRecDepth 100000
set_option maxHeartbeats 400000
namespace DL
open PySem PySem.Spec PyProof.Rows L2
open PySem.W (Frag)
variable [TB]
/-! ### rows of ints -/
abbrev dI (ns : List Int) : List D := ns.map D.int
abbrev tI (ns : List Int) : D := .tup (dI ns)
abbrev lI (ns : List Int) : D := .lst (dI ns)
def ati (ns : List Int) (k : Nat) : Int := ns.getD k 0
theorem lenOf_tup {M : HM} {ds : List D} : lenOf M (.tup ds) = some (ds.length : Int) := rfl
theorem lenOf_lst {M : HM} {ds : List D} : lenOf M (.lst ds) = some (ds.length : Int) := rfl
theorem lenOf_lsf {M : HM} {ds : List D} : lenOf M (.lsf ds) = some (ds.length : Int) := rfl
theorem ixN_lt {n : Nat} {i : Int} (h0 : 0 ≤ i) (h1 : i < n) : ixN n i = some i.toNat := by
  unfold ixN; rw [if_pos h0, if_pos h1]
theorem ixN_neg {n : Nat} {i : Int} (h0 : i < 0) (h1 : -(n : Int) ≤ i) : ixN n i = some (i + n).toNat := by
  unfold ixN; rw [if_neg (by omega), if_pos h1]
theorem atI_lt {α : Type} {xs : List α} {i : Int} (h0 : 0 ≤ i) (h1 : i < xs.length) : atI xs i = xs[i.toNat]? := by
  unfold atI; rw [ixN_lt h0 h1]; rfl
theorem dI_at {ns : List Int} {k : Nat} (h : k < ns.length) : (dI ns)[k]? = some (.int (ati ns k)) := by
  simp [ati, h]
theorem atI_dI {ns : List Int} {i : Int} (h0 : 0 ≤ i) (h1 : i < ns.length) : atI (dI ns) i = some (.int (ati ns i.toNat)) := by
  rw [atI_lt h0 (by simpa using h1)]; exact dI_at (by omega)
theorem ix_tup {M : HM} {ds : List D} {i : Int} : ixOf M (.tup ds) (.int i) = atI ds i := rfl
theorem ix_lst {M : HM} {ds : List D} {i : Int} : ixOf M (.lst ds) (.int i) = atI ds i := rfl
theorem ati_ge {ns : List Int} {k : Nat} (h : ns.length ≤ k) : ati ns k = 0 := by
  simp [ati, h]
theorem ati_nil {k : Nat} : ati [] k = 0 := by simp [ati]
theorem ati_range {n : Nat} {f : Nat → Int} {k : Nat} : ati ((List.range n).map f) k = if k < n then f k else 0 := by
  unfold ati
  by_cases h : k < n
  · simp [h]
  · simp [h]
theorem ati_app {a b : List Int} {k : Nat} : ati (a ++ b) k = if k < a.length then ati a k else ati b (k - a.length) := by
  unfold ati
  by_cases h : k < a.length
  · simp [h, List.getElem?_append_left]
  · simp [h, List.getElem?_append_right (Nat.le_of_not_lt h)]
theorem ati_zeros {n k : Nat} : ati (List.replicate n 0) k = 0 := by
  unfold ati
  by_cases h : k < n <;> simp [h]
theorem ati_take {a : List Int} {n k : Nat} : ati (a.take n) k = if k < n then ati a k else 0 := by
  unfold ati
  by_cases h : k < n
  · simp [h]
  · rw [if_neg h]; simp [List.getElem?_eq_none (Nat.le_trans (List.length_take_le n a) (Nat.le_of_not_lt h))]
theorem ati_drop {a : List Int} {n k : Nat} : ati (a.drop n) k = ati a (n + k) := by
  unfold ati; simp
/-! ### no noughts behind -/
def top (ns : List Int) : Nat := ns.length - (ns.reverse.takeWhile (· == 0)).length
def trim (ns : List Int) : List Int := (ns.reverse.dropWhile (· == 0)).reverse
theorem trim_nil : trim [] = [] := rfl
theorem trim_snoc (ns : List Int) (x : Int) : trim (ns ++ [x]) = if x = 0 then trim ns else ns ++ [x] := by
  unfold trim
  by_cases h : x = 0
  · simp [h]
  · simp [h]
theorem snoc_ind {p : List Int → Prop} (h0 : p []) (h1 : ∀ l x, p l → p (l ++ [x])) (l : List Int) : p l := by
  have : ∀ l : List Int, p l.reverse := by
    intro l
    induction l with
    | nil => exact h0
    | cons a l ih => rw [List.reverse_cons]; exact h1 _ _ ih
  rw [← List.reverse_reverse l]; exact this _
theorem trim_take (ns : List Int) : ∃ m, m ≤ ns.length ∧ trim ns = ns.take m := by
  induction ns using snoc_ind with
  | h0 => exact ⟨0, Nat.le_refl _, rfl⟩
  | h1 l x ih =>
    rw [trim_snoc]
    by_cases h : x = 0
    · rw [if_pos h]
      obtain ⟨m, hm, e⟩ := ih
      exact ⟨m, by rw [List.length_append]; omega, by rw [e, List.take_append_of_le_length hm]⟩
    · rw [if_neg h]
      exact ⟨(l ++ [x]).length, Nat.le_refl _, by rw [List.take_length]⟩
theorem trim_len (ns : List Int) : (trim ns).length ≤ ns.length := by
  obtain ⟨m, hm, e⟩ := trim_take ns
  rw [e, List.length_take]; omega
theorem ati_trim (ns : List Int) : ∀ k, ati (trim ns) k = ati ns k := by
  induction ns using snoc_ind with
  | h0 => intro k; rfl
  | h1 l x ih =>
    intro k
    rw [trim_snoc]
    by_cases h : x = 0
    · rw [if_pos h, ih, ati_app]
      by_cases hk : k < l.length
      · rw [if_pos hk]
      · rw [if_neg hk, ati_ge (Nat.le_of_not_lt hk)]
        subst h
        unfold ati
        cases k - l.length <;> rfl
    · rw [if_neg h]
theorem trim_mem {ns : List Int} {x : Int} (h : x ∈ trim ns) : x ∈ ns := by
  obtain ⟨m, _, e⟩ := trim_take ns
  rw [e] at h; exact List.mem_of_mem_take h
/-- it ends with what isn't 0 -/
def Tr (ns : List Int) : Prop := trim ns = ns
theorem trim_trim (ns : List Int) : Tr (trim ns) := by
  induction ns using snoc_ind with
  | h0 => rfl
  | h1 l x ih =>
    rw [trim_snoc]
    by_cases h : x = 0
    · rw [if_pos h]; exact ih
    · rw [if_neg h]; show trim (l ++ [x]) = _; rw [trim_snoc, if_neg h]
theorem Tr.last {ns : List Int} (h : Tr ns) (hn : ns ≠ []) : ati ns (ns.length - 1) ≠ 0 := by
  induction ns using snoc_ind with
  | h0 => exact absurd rfl hn
  | h1 l x ih =>
    intro z
    have e : ati (l ++ [x]) ((l ++ [x]).length - 1) = x := by
      rw [ati_app]; simp [ati]
    rw [e] at z
    have h' : trim (l ++ [x]) = l ++ [x] := h
    rw [trim_snoc, if_pos z] at h'
    have := congrArg List.length h'
    have l2 := trim_len l
    rw [List.length_append] at this
    simp at this
    omega
theorem Tr.ext {a b : List Int} (ha : Tr a) (hb : Tr b) (h : ∀ k, ati a k = ati b k) : a = b := by
  have key : ∀ {a b : List Int}, Tr a → (∀ k, ati a k = ati b k) → a.length ≤ b.length := by
    intro a b ha h
    by_cases hn : a = []
    · rw [hn]; exact Nat.zero_le _
    · have := ha.last hn
      rw [h] at this
      apply Nat.le_of_not_lt
      intro hl
      exact this (ati_ge (by omega))
  have e : a.length = b.length := Nat.le_antisymm (key ha h) (key hb fun k => (h k).symm)
  apply List.ext_getElem e
  intro i h1 h2
  have := h i
  unfold ati at this
  simpa [h1, h2] using this
theorem trim_ext {a b : List Int} (h : ∀ k, ati a k = ati b k) : trim a = trim b := Tr.ext (trim_trim a) (trim_trim b) fun k => by rw [ati_trim, ati_trim, h]
theorem trim_zero {a : List Int} (h : ∀ k, ati a k = 0) : trim a = [] := (trim_ext (b := []) fun k => by rw [h, ati_nil]).trans rfl
/-- the first m of them, where none stands behind and the last isn't 0 -/
theorem take_trim {ns : List Int} {m : Nat} (h1 : m ≤ ns.length) (h2 : ∀ k, m ≤ k → ati ns k = 0) (h3 : m = 0 ∨ ati ns (m - 1) ≠ 0) : ns.take m = trim ns := by
  have ht : Tr (ns.take m) := by
    rcases h3 with h | h
    · subst h; exact rfl
    · by_cases h0 : m = 0
      · subst h0; exact rfl
      · have hl : m - 1 < ns.length := by omega
        have e : ns.take m = ns.take (m - 1) ++ [ati ns (m - 1)] := by
          obtain ⟨j, rfl⟩ : ∃ j, m = j + 1 := ⟨m - 1, by omega⟩
          rw [Nat.add_sub_cancel]
          rw [List.take_add_one]
          have : ns[j]? = some (ati ns j) := by simp [ati, show j < ns.length by omega]
          rw [this]; rfl
        rw [e]
        show trim _ = _
        rw [trim_snoc, if_neg h]
  refine Tr.ext ht (trim_trim ns) fun k => ?_
  rw [ati_take, ati_trim]
  by_cases hk : k < m
  · rw [if_pos hk]
  · rw [if_neg hk, h2 k (Nat.le_of_not_lt hk)]
/-! ### comprehensions -/
theorem compL_map {tgt : DTgt} {de : DTE} {σ : DSt} {M : HM} {Q : List D → HM → Prop} {f : D → D} : ∀ (ds acc : List D), (∀ x ∈ ds, ∃ σ2, tgt σ x = some σ2 ∧ ∀ Q', Q' (f x) M → de σ2 M Q' (fun _ _ => False)) → Q (acc ++ ds.map f) M → dCompL tgt dYes de σ ds acc M Q
  | [], acc, _, q => by simpa [dCompL] using q
  | x :: r, acc, h, q => by
    obtain ⟨σ2, e, hx⟩ := h x List.mem_cons_self
    refine ⟨σ2, e, fun _ => hx _ ?_, fun z => nomatch z⟩
    exact compL_map r (acc ++ [f x]) (fun y hy => h y (List.mem_cons_of_mem _ hy)) (by simpa using q)
/-- [.. for v in range(n)], whose items change nothing -/
theorem comp_rng {v : Nat} {vs : List Nat} {r : DTA} {de : DTE} {σ : DSt} {M : HM} {Q : DK} {E : XDK} {n : Int} {g : Nat → D} (hr : ∀ Q', Q' [.int n] M → r σ M Q' E) (h1 : n ≤ 1000000) (h0 : 0 ≤ n)
    (h : ∀ i : Nat, (i : Int) < n → ∀ Q', Q' (g i) M → de ((wipeD σ vs).set v (some (.int i))) M Q' (fun _ _ => False)) (q : Q (.lst ((List.range n.toNat).map g)) M) : dComp (dIRng1 r) (tgN v) dYes de vs σ M Q E := by
  refine hr _ ⟨⟨by omega, by omega⟩, by rw [rgD_length]; omega, ?_⟩
  have e : rgD 0 n.toNat = (List.range n.toNat).map fun i : Nat => D.int (i : Int) := by
    unfold rgD
    exact List.map_congr_left fun i _ => by rw [Int.zero_add]
  rw [e]
  refine compL_map (f := fun d => match d with | .int i => g i.toNat | d => d) _ [] (fun x hx => ?_) ?_
  · obtain ⟨i, hi, rfl⟩ := List.mem_map.mp hx
    have hi' : (i : Int) < n := by have := List.mem_range.mp hi; omega
    exact ⟨_, rfl, fun Q' q' => h i hi' Q' (by simpa using q')⟩
  · simpa [Function.comp_def] using q
/-- [.. for v in a list of ints] -/
theorem comp_ints {v : Nat} {vs : List Nat} {d : DTE} {de : DTE} {σ : DSt} {M M1 : HM} {Q : DK} {E : XDK} {ns : List Int} {x : D} {g : Int → D} (hx : frzOf x = some (dI ns)) (hr : ∀ Q' : DK, Q' x M1 → d σ M Q' E) (h1 : ns.length ≤ 1000000)
    (h : ∀ i ∈ ns, ∀ Q', Q' (g i) M1 → de ((wipeD σ vs).set v (some (.int i))) M1 Q' (fun _ _ => False)) (q : Q (.lst (ns.map g)) M1) : dComp (dISeq d) (tgN v) dYes de vs σ M Q E := by
  refine hr _ ⟨_, hx, by simpa using h1, ?_⟩
  refine compL_map (f := fun d => match d with | .int i => g i | d => d) _ [] (fun x hx => ?_) ?_
  · obtain ⟨i, hi, rfl⟩ := List.mem_map.mp hx
    exact ⟨_, rfl, fun Q' q' => h i hi Q' q'⟩
  · simpa [Function.comp_def] using q
/-- an invariant over the items -/
theorem compL_inv {tgt : DTgt} {de : DTE} {σ : DSt} {Q : List D → HM → Prop} (P : Nat → List D → HM → Prop) : ∀ (ds : List D) (i : Nat) (acc : List D) {M : HM},
    (∀ j x acc M, ds[j]? = some x → P (i + j) acc M → ∃ σ2, tgt σ x = some σ2 ∧ ∀ Q' : DK, (∀ y M', P (i + j + 1) (acc ++ [y]) M' → Q' y M') → de σ2 M Q' (fun _ _ => False)) → (∀ acc M, P (i + ds.length) acc M → Q acc M) → P i acc M → dCompL tgt dYes de σ ds acc M Q
  | [], i, acc, M, _, hq, p => hq _ _ p
  | x :: r, i, acc, M, hs, hq, p => by
    obtain ⟨σ2, e, hx⟩ := hs 0 x acc M rfl p
    refine ⟨σ2, e, fun _ => hx _ fun y M' p' => ?_, fun z => nomatch z⟩
    refine compL_inv P r (i + 1) (acc ++ [y]) (fun j z acc' M'' ez pz => ?_) (fun acc' M'' pz => ?_) p'
    · have e1 : i + 1 + j = i + (j + 1) := by omega
      rw [e1] at pz ⊢
      exact hs (j + 1) z acc' M'' (by simpa using ez) pz
    · exact hq acc' M'' (by rw [List.length_cons]; have e1 : i + (r.length + 1) = i + 1 + r.length := by omega
                            rw [e1]; exact pz)
/-- a loop by an invariant over the items -/
theorem forL_inv {g : DTG} {tb : DTS} {D : DEnds} (P : Nat → DSt → HM → Prop) : ∀ (ds : List DL.D) (i : Nat) {σ : DSt} {M : HM},
    (∀ j x σ M, ds[j]? = some x → P (i + j) σ M → ∀ D' : DEnds, D'.rt = D.rt → D'.ex = D.ex → D'.bk = D.nx → (∀ σ M, P (i + j + 1) σ M → D'.nx σ M) → (∀ σ M, P (i + j + 1) σ M → D'.ct σ M) → g x σ M fun σ1 M1 => tb D' σ1 M1) → (∀ σ M, P (i + ds.length) σ M → D.nx σ M) → P i σ M → dForL g tb ds D σ M
  | [], i, σ, M, _, hq, p => hq _ _ p
  | x :: r, i, σ, M, hs, hq, p => by
    have rest : ∀ σ' M', P (i + 1) σ' M' → dForL g tb r D σ' M' := fun σ' M' p' => by
      refine forL_inv P r (i + 1) (fun j z σ2 M2 ez pz => ?_) (fun σ2 M2 pz => ?_) p'
      · have e1 : i + 1 + j = i + (j + 1) := by omega
        rw [e1] at pz ⊢
        exact hs (j + 1) z σ2 M2 (by simpa using ez) pz
      · have e1 : i + (r.length + 1) = i + 1 + r.length := by omega
        exact hq σ2 M2 (by rw [List.length_cons, e1]; exact pz)
    exact hs 0 x σ M rfl p _ rfl rfl rfl rest rest
/-! ### the law's tape -/
def tp (cells : List Int) (s l : Int) : MO := .dK [(.inr "cells", lI cells), (.inr "spot", .int s), (.inr "left", .int l)]
structure TpOk (cells : List Int) (s l : Int) (B : Nat) : Prop where
  ne : cells ≠ []
  len : cells.length ≤ 63
  s0 : 0 ≤ s
  s1 : s ≤ B
  l0 : 0 ≤ l
theorem TpOk.mono {cells : List Int} {s l : Int} {B C : Nat} (h : TpOk cells s l B) (hb : B ≤ C) : TpOk cells s l C := ⟨h.ne, h.len, h.s0, by have := h.s1; omega, h.l0⟩
end DL

set_option Elab.async false
set_option linter.all false
set_option maxRecDepth 100000
set_option maxHeartbeats 400000
namespace DL
open PySem PySem.Spec PyProof.Rows L2
open PySem.W (Frag)
variable [TB]
section
variable {M0 : HM} {t : Addr} {c : List Int} {s l : Int} {Q : DK} {Qm : HM → Prop}
theorem kCS : ¬ (("cells" : Str) = "spot") := by decide +kernel
theorem kCL : ¬ (("cells" : Str) = "left") := by decide +kernel
theorem kSL : ¬ (("spot" : Str) = "left") := by decide +kernel
theorem kLS : ¬ (("left" : Str) = "spot") := by decide +kernel
theorem tIx {x : Str} {d : D} (h : lookD [((.inr "cells" : Key), lI c), (.inr "spot", .int s), (.inr "left", .int l)] (.inr x) = some d) (q : Q d (mup M0 t (tp c s l))) : fIx (.ref t) (.str x) (mup M0 t (tp c s l)) Q := by
  refine ⟨d, ?_, q⟩
  have e : dicOf (mup M0 t (tp c s l)) (.ref t) = some [(.inr "cells", lI c), (.inr "spot", .int s), (.inr "left", .int l)] := by
    unfold dicOf; dsimp only; rw [mup_same]; rfl
  unfold ixOf
  rw [e]
  exact h
theorem tIx_left (q : Q (.int l) (mup M0 t (tp c s l))) : fIx (.ref t) (.str "left") (mup M0 t (tp c s l)) Q := tIx (by simp [lookD, kCL, kSL]) q
theorem tIx_spot (q : Q (.int s) (mup M0 t (tp c s l))) : fIx (.ref t) (.str "spot") (mup M0 t (tp c s l)) Q := tIx (by simp [lookD, kCS, kLS]) q
theorem tIx_cells (q : Q (lI c) (mup M0 t (tp c s l))) : fIx (.ref t) (.str "cells") (mup M0 t (tp c s l)) Q := tIx (by simp [lookD]) q
theorem tSet {x : Str} {d : D} {kvs : List (Key × D)} (h : putD [((.inr "cells" : Key), lI c), (.inr "spot", .int s), (.inr "left", .int l)] (.inr x) d = kvs) (q : Qm (mup M0 t (.dK kvs))) : fSet (.ref t) (.str x) d (mup M0 t (tp c s l)) Qm := by
  unfold fSet
  dsimp only
  rw [mup_same]
  refine ⟨.inr x, rfl, by show 3 < 1000000; decide, ?_⟩
  rw [h, mup_mup]
  exact q
theorem tSet_left {l' : Int} (q : Qm (mup M0 t (tp c s l'))) : fSet (.ref t) (.str "left") (.int l') (mup M0 t (tp c s l)) Qm := tSet (kvs := [(.inr "cells", lI c), (.inr "spot", .int s), (.inr "left", .int l')]) (by simp [putD, kCL, kSL]) q
theorem tSet_spot {s' : Int} (q : Qm (mup M0 t (tp c s' l))) : fSet (.ref t) (.str "spot") (.int s') (mup M0 t (tp c s l)) Qm := tSet (kvs := [(.inr "cells", lI c), (.inr "spot", .int s'), (.inr "left", .int l)]) (by simp [putD, kCS, kLS]) q
end
def sp__law_draw : DSp := fun xs M Q _ => ∃ (t : Addr) (M0 : HM) (cells : List Int) (s l : Int) (B : Nat) (many : Int), xs = [.ref t, .int many] ∧ M = mup M0 t (tp cells s l) ∧ TpOk cells s l B ∧ B ≤ 1000000 ∧ 0 < many ∧ many ≤ 10 ^ 100 ∧
  ∀ r s' l', 0 ≤ r → r < many → TpOk cells s' l' (B + 1) → Q (.int r) (mup M0 t (tp cells s' l'))
def b__law_draw : DTS := (dSeq (dIf (dB (dOp fLt (dOp fIx (dVar 0) (dC (.str "left"))) (dVar 1))) (dSeq (dPar 2 3 (dCons (dOp fIx (dVar 0) (dC (.str "spot"))) (dCons (dCB fLen (dCons (dOp fIx (dVar 0) (dC (.str "cells"))) dNil)) dNil))) (dSeq (dAsg (dTup (dCons (dOp fIx (dOp fIx (dVar 0) (dC (.str "cells"))) (dOp fMod (dVar 2) (dVar 3))) (dCons (dOp fAdd (dVar 2) (dC (.int 1))) dNil))) (dgTup 2 (dgCons (dgName 4) (dgCons (dgSub (dVar 0) (dC (.str "spot"))) dgNil)))) (dSeq (dAsg (dOp fMod (dOp fPow (dOp fAdd (dOp fAdd (dOp fMod (dVar 4) (dC (.int 2147483647))) (dOp fMul (dC (.int 69621)) (dVar 2))) (dC (.int 48271))) (dC (.int 17))) (dOp fAdd (dOp fPow (dC (.int 10)) (dC (.int 50))) (dC (.int 151)))) (dgSub (dVar 0) (dC (.str "left")))) (dIf (dAndT (dB (dOp fGe (dVar 4) (dOp fPow (dC (.int 10)) (dC (.int 18))))) (dB (dOp fLt (dVar 2) (dVar 3)))) (dAsg (dOp fSub (dVar 4) (dOp fPow (dC (.int 10)) (dC (.int 18)))) (dgSub (dVar 0) (dC (.str "left")))) dNext)))) dNext) (dSeq (dAsg (dTup (dCons (dOp fMod (dOp fIx (dVar 0) (dC (.str "left"))) (dVar 1)) (dCons (dOp fDiv (dOp fIx (dVar 0) (dC (.str "left"))) (dVar 1)) dNil))) (dgTup 2 (dgCons (dgName 5) (dgCons (dgSub (dVar 0) (dC (.str "left"))) dgNil)))) (dRet (dVar 5))))
theorem hd__law_draw : ∀ (xs : List D) (M : HM) (Q : DK) (E : XDK), sp__law_draw xs M Q E → xs.length = (["_law_tape", "_law_many"] : List Str).length ∧ b__law_draw (ends Q E) (startD (["_law_tape", "_law_many", "_law_spot", "_law_most", "_law_cell", "_law_found"] : List Str).length xs) M := by
  rintro xs M Q E ⟨t, M0, c, s, l, B, many, rfl, rfl, ok, hB, h0, h1, q⟩
  refine ⟨rfl, ?_⟩
  -- the end, from any state
  have fin : ∀ (o2 o3 o4 : Option D) (s l : Int) , TpOk c s l (B + 1) → (dSeq (dAsg (dTup (dCons (dOp fMod (dOp fIx (dVar 0) (dC (.str "left"))) (dVar 1)) (dCons (dOp fDiv (dOp fIx (dVar 0) (dC (.str "left"))) (dVar 1)) dNil))) (dgTup 2 (dgCons (dgName 5) (dgCons (dgSub (dVar 0) (dC (.str "left"))) dgNil)))) (dRet (dVar 5))) (ends Q E) [some (.ref t), some (.int many), o2, o3, o4, none] (mup M0 t (tp c s l)) := by
    intro o2 o3 o4 s l ok
    simp only [dNext, dSeq, dDrop, dRet, dRetN, dIf, dCall, dCB, dCBK, dCons, dNil, dVar, dC, dOp, dB, dTru, dAndT, dOrT, dNotT, dAndV, dOrV, dNotV, dIfE, dChain, dTup, dLst, dSl, dPart, dNoPart, dgName, dgTup, dgCons, dgNil, dgSub, dAsg, dPar, dAug, dNeg, ends, fLt, fLe, fGt, fGe, fSub, fMod, fDiv, fPow, fAdd, fMul, iAddI, iSubI, ii, fInt, fMax2, fMin2, fLen, fTuple, fList, List.length_cons, List.length_nil, List.map_cons, List.map_nil, startD, List.replicate, List.cons_append, List.nil_append, List.append_nil, Nat.zero_add, Nat.reduceAdd, Nat.reduceSub, List.getElem?_cons_succ, List.getElem?_cons_zero, List.set_cons_zero, List.set_cons_succ, wipeD]
    refine tIx_left ⟨h0, tIx_left ⟨⟨h0, by omega⟩, by decide, ?_⟩⟩
    refine ⟨_, rfl, rfl, ?_⟩
    refine tSet_left ⟨rfl, ?_⟩
    exact .here (q _ _ _ (Int.emod_nonneg _ (by omega)) (Int.emod_lt_of_pos _ h0) ⟨ok.ne, ok.len, ok.s0, ok.s1, Int.ediv_nonneg ok.l0 (by omega)⟩)
  have e1 : (M0 : HM) = M0 := rfl
  simp only [b__law_draw, dNext, dSeq, dDrop, dRet, dRetN, dIf, dCall, dCB, dCBK, dCons, dNil, dVar, dC, dOp, dB, dTru, dAndT, dOrT, dNotT, dAndV, dOrV, dNotV, dIfE, dChain, dTup, dLst, dSl, dPart, dNoPart, dgName, dgTup, dgCons, dgNil, dgSub, dAsg, dPar, dAug, dNeg, ends, fLt, fLe, fGt, fGe, fSub, fMod, fDiv, fPow, fAdd, fMul, iAddI, iSubI, ii, fInt, fMax2, fMin2, fLen, fTuple, fList, List.length_cons, List.length_nil, List.map_cons, List.map_nil, startD, List.replicate, List.cons_append, List.nil_append, List.append_nil, Nat.zero_add, Nat.reduceAdd, Nat.reduceSub, List.getElem?_cons_succ, List.getElem?_cons_zero, List.set_cons_zero, List.set_cons_succ, wipeD] at fin ⊢
  refine tIx_left ⟨fun _ => ?_, fun _ => fin none none none _ _ (ok.mono (Nat.le_succ B))⟩
  refine tIx_spot (tIx_cells ⟨_, rfl, ?_⟩)
  dsimp only
  have hc0 : (0 : Int) < ((dI c).length : Int) := by
    have := List.length_pos_iff.mpr ok.ne
    simp; omega
  have hm0 := Int.emod_nonneg s (show ((dI c).length : Int) ≠ 0 by omega)
  have hm1 := Int.emod_lt_of_pos s hc0
  refine tIx_cells ⟨hc0, ⟨.int (ati c (s % ((dI c).length : Int)).toNat), by rw [ix_lst, atI_dI hm0 (by simpa using hm1)], by decide, ?_⟩⟩
  refine ⟨_, rfl, rfl, ?_⟩
  refine tSet_spot ⟨rfl, ?_⟩
  have hs0 := ok.s0
  have hs1 := ok.s1
  dsimp only
  have hp : (0 : Int) < 10 ^ Int.toNat 50 + 151 := by decide +kernel
  have hm2 := Int.emod_nonneg (ati c (s % ((dI c).length : Int)).toNat) (show (2147483647 : Int) ≠ 0 by decide)
  have hm3 := Int.emod_lt_of_pos (ati c (s % ((dI c).length : Int)).toNat) (show (0 : Int) < 2147483647 by decide)
  refine ⟨by decide, ⟨by decide +kernel, ?_⟩, ⟨by decide, by decide, ?_⟩, ⟨by decide, by decide, by decide⟩, hp, tSet_left ?_⟩
  · exact Nat.le_trans (show s.natAbs ≤ 1000000 by omega) (by decide +kernel)
  · omega
  have ok1 : ∀ l', 0 ≤ l' → TpOk c (s + 1) l' (B + 1) := fun l' h => ⟨ok.ne, ok.len, by omega, by omega, h⟩
  refine ⟨⟨by decide, by decide, by decide⟩, fun he => ⟨fun _ => ⟨⟨by decide, by decide, by decide⟩, tSet_left (fin none none none _ _ (ok1 _ ?_))⟩, fun _ => fin none none none _ _ (ok1 _ (Int.emod_nonneg _ (Int.ne_of_gt hp)))⟩, fun _ => ⟨fun z => (nomatch z), fun _ => fin none none none _ _ (ok1 _ (Int.emod_nonneg _ (Int.ne_of_gt hp)))⟩⟩
  have := of_decide_eq_true he
  omega
end DL

set_option Elab.async false
set_option linter.all false
set_option maxRecDepth 100000
set_option maxHeartbeats 400000
namespace DL
open PySem PySem.Spec PyProof.Rows L2
open PySem.W (Frag)
variable [TB]
/-! ### comprehensions with a test -/
theorem compL_if {tgt : DTgt} {tc : DTT} {de : DTE} {σ : DSt} {M : HM} {Q : List D → HM → Prop} {f : D → D} {p : D → Bool} : ∀ (ds acc : List D), (∀ x ∈ ds, ∃ σ2, tgt σ x = some σ2 ∧ (∀ Q', Q' (p x) M → tc σ2 M Q' (fun _ _ => False)) ∧ (p x = true → ∀ Q', Q' (f x) M → de σ2 M Q' (fun _ _ => False))) →
    Q (acc ++ (ds.filter p).map f) M → dCompL tgt tc de σ ds acc M Q
  | [], acc, _, q => by simpa [dCompL] using q
  | x :: r, acc, h, q => by
    obtain ⟨σ2, e, hc, hx⟩ := h x List.mem_cons_self
    refine ⟨σ2, e, hc _ ⟨fun hp => hx hp _ ?_, fun hp => ?_⟩⟩
    · exact compL_if r (acc ++ [f x]) (fun y hy => h y (List.mem_cons_of_mem _ hy)) (by simpa [List.filter_cons, hp] using q)
    · exact compL_if r acc (fun y hy => h y (List.mem_cons_of_mem _ hy)) (by simpa [List.filter_cons, hp] using q)
theorem comp_rng_if {v : Nat} {vs : List Nat} {r : DTA} {tc : DTT} {de : DTE} {σ : DSt} {M : HM} {Q : DK} {E : XDK} {n : Int} {g : Nat → D} {p : Nat → Bool} (hr : ∀ Q', Q' [.int n] M → r σ M Q' E) (h1 : n ≤ 1000000) (h0 : 0 ≤ n)
    (h : ∀ i : Nat, (i : Int) < n → (∀ Q', Q' (p i) M → tc ((wipeD σ vs).set v (some (.int i))) M Q' (fun _ _ => False)) ∧ (p i = true → ∀ Q', Q' (g i) M → de ((wipeD σ vs).set v (some (.int i))) M Q' (fun _ _ => False)))
    (q : Q (.lst (((List.range n.toNat).filter p).map g)) M) : dComp (dIRng1 r) (tgN v) tc de vs σ M Q E := by
  refine hr _ ⟨⟨by omega, by omega⟩, by rw [rgD_length]; omega, ?_⟩
  have e : rgD 0 n.toNat = (List.range n.toNat).map fun i : Nat => D.int (i : Int) := by
    unfold rgD
    exact List.map_congr_left fun i _ => by rw [Int.zero_add]
  rw [e]
  refine compL_if (f := fun d => match d with | .int i => g i.toNat | d => d) (p := fun d => match d with | .int i => p i.toNat | _ => false) _ [] (fun x hx => ?_) ?_
  · obtain ⟨i, hi, rfl⟩ := List.mem_map.mp hx
    have hi' : (i : Int) < n := by have := List.mem_range.mp hi; omega
    obtain ⟨h2, h3⟩ := h i hi'
    exact ⟨_, rfl, fun Q' q' => h2 Q' (by simpa using q'), fun hp Q' q' => h3 (by simpa using hp) Q' (by simpa using q')⟩
  · have e2 : ∀ l : List Nat, ((l.map fun i : Nat => D.int (i : Int)).filter (fun d => match d with | .int i => p i.toNat | _ => false)).map (fun d => match d with | .int i => g i.toNat | d => d) = (l.filter p).map g := by
      intro l
      induction l with
      | nil => rfl
      | cons a l ih =>
        simp only [List.map_cons, List.filter_cons, Int.toNat_natCast]
        by_cases hp : p a = true
        · simp [hp, ih]
        · simp [hp, ih]
    rw [List.nil_append, e2]
    exact q
/-! ### equality of ints -/
theorem eq_int {i j : Int} {M : HM} {Q : DK} (q : Q (.bl (decide (i = j))) M) : fEq (.int i) (.int j) M Q := by
  refine .inl ⟨rfl, rfl, ?_⟩
  have e : eqD (rd M (.int i)) (rd M (.int j)) = decide (i = j) := by
    show (i == j) = _
    by_cases h : i = j <;> simp [h]
  rw [e]; exact q
theorem ne_int {i j : Int} {M : HM} {Q : DK} (q : Q (.bl (!decide (i = j))) M) : fNe (.int i) (.int j) M Q := by
  refine .inl ⟨rfl, rfl, ?_⟩
  have e : eqD (rd M (.int i)) (rd M (.int j)) = decide (i = j) := by
    show (i == j) = _
    by_cases h : i = j <;> simp [h]
  rw [e]; exact q
/-! ### draws -/
def sp__law_pick : DSp := fun xs M Q _ => ∃ (t : Addr) (M0 : HM) (cells : List Int) (s l : Int) (B : Nat) (ds : List D), xs = [.ref t, .lst ds] ∧ M = mup M0 t (tp cells s l) ∧ TpOk cells s l B ∧ B ≤ 1000000 ∧ ds ≠ [] ∧ ds.length ≤ 1000 ∧
  ∀ d ∈ ds, ∀ s' l', TpOk cells s' l' (B + 1) → Q d (mup M0 t (tp cells s' l'))
def b__law_pick : DTS := (dRet (dOp fIx (dVar 1) (dCall sp__law_draw (dCons (dVar 0) (dCons (dCB fLen (dCons (dVar 1) dNil)) dNil)))))
theorem hd__law_pick : ∀ (xs : List D) (M : HM) (Q : DK) (E : XDK), sp__law_pick xs M Q E → xs.length = (["_law_tape", "_law_some"] : List Str).length ∧ b__law_pick (ends Q E) (startD (["_law_tape", "_law_some"] : List Str).length xs) M := by
  rintro xs M Q E ⟨t, M0, c, s, l, B, ds, rfl, rfl, ok, hB, hn, hl, q⟩
  refine ⟨rfl, ?_⟩
  simp only [b__law_pick, dNext, dSeq, dDrop, dRet, dRetN, dIf, dCall, dCB, dCBK, dCons, dNil, dVar, dC, dOp, dB, dTru, dAndT, dOrT, dNotT, dAndV, dOrV, dNotV, dIfE, dChain, dTup, dLst, dSl, dPart, dNoPart, dgName, dgTup, dgCons, dgNil, dgSub, dAsg, dPar, dAug, dNeg, ends, fLt, fLe, fGt, fGe, fSub, fMod, fDiv, fPow, fAdd, fMul, iAddI, iSubI, ii, fInt, fMax2, fMin2, fLen, fTuple, fList, List.length_cons, List.length_nil, List.map_cons, List.map_nil, startD, List.replicate, List.cons_append, List.nil_append, List.append_nil, Nat.zero_add, Nat.reduceAdd, Nat.reduceSub, List.getElem?_cons_succ, List.getElem?_cons_zero, List.set_cons_zero, List.set_cons_succ, wipeD]
  have := List.length_pos_iff.mpr hn
  refine ⟨_, rfl, t, M0, c, s, l, B, _, rfl, rfl, ok, hB, by omega, Int.le_trans (show (ds.length : Int) ≤ 1000 by omega) (by decide), fun r s' l' h0 h1 ok' => ?_⟩
  have hr : r.toNat < ds.length := by omega
  refine ⟨ds[r.toNat], ?_, .here (q _ (List.getElem_mem hr) _ _ ok')⟩
  rw [ix_lst, atI_lt h0 h1]
  simp [hr]
def sp__law_prime : DSp := fun xs M Q _ => ∃ (t : Addr) (M0 : HM) (cells : List Int) (s l : Int) (B : Nat), xs = [.ref t] ∧ M = mup M0 t (tp cells s l) ∧ TpOk cells s l B ∧ B ≤ 1000000 ∧
  ∀ p : Int, (p = 2 ∨ p = 3 ∨ p = 5) → ∀ s' l', TpOk cells s' l' (B + 1) → Q (.int p) (mup M0 t (tp cells s' l'))
def b__law_prime : DTS := (dRet (dCall sp__law_pick (dCons (dVar 0) (dCons (dLst (dCons (dC (.int 2)) (dCons (dC (.int 2)) (dCons (dC (.int 3)) (dCons (dC (.int 5)) dNil))))) dNil))))
theorem hd__law_prime : ∀ (xs : List D) (M : HM) (Q : DK) (E : XDK), sp__law_prime xs M Q E → xs.length = (["_law_tape"] : List Str).length ∧ b__law_prime (ends Q E) (startD (["_law_tape"] : List Str).length xs) M := by
  rintro xs M Q E ⟨t, M0, c, s, l, B, rfl, rfl, ok, hB, q⟩
  refine ⟨rfl, ?_⟩
  simp only [b__law_prime, dNext, dSeq, dDrop, dRet, dRetN, dIf, dCall, dCB, dCBK, dCons, dNil, dVar, dC, dOp, dB, dTru, dAndT, dOrT, dNotT, dAndV, dOrV, dNotV, dIfE, dChain, dTup, dLst, dSl, dPart, dNoPart, dgName, dgTup, dgCons, dgNil, dgSub, dAsg, dPar, dAug, dNeg, ends, fLt, fLe, fGt, fGe, fSub, fMod, fDiv, fPow, fAdd, fMul, iAddI, iSubI, ii, fInt, fMax2, fMin2, fLen, fTuple, fList, List.length_cons, List.length_nil, List.map_cons, List.map_nil, startD, List.replicate, List.cons_append, List.nil_append, List.append_nil, Nat.zero_add, Nat.reduceAdd, Nat.reduceSub, List.getElem?_cons_succ, List.getElem?_cons_zero, List.set_cons_zero, List.set_cons_succ, wipeD]
  refine ⟨by decide, t, M0, c, s, l, B, _, rfl, rfl, ok, hB, by simp, by decide, fun d hd s' l' ok' => .here ?_⟩
  simp only [List.mem_cons, List.not_mem_nil, or_false] at hd
  rcases hd with h | h | h | h <;> subst h <;> exact q _ (by simp) _ _ ok'
theorem cutG_to {α : Type} {xs : List α} {m : Int} (h0 : 0 ≤ m) (h1 : m ≤ xs.length) : cutG xs none (some m) = xs.take m.toNat := by
  unfold cutG HT.sIx
  simp only [if_neg (show ¬ m < 0 by omega), Nat.sub_zero, List.drop_zero]
  rw [Nat.min_eq_left (by omega)]
theorem cutG_big {α : Type} {xs : List α} {m : Int} (h1 : (xs.length : Int) ≤ m) : cutG xs none (some m) = xs := by
  unfold cutG HT.sIx
  simp only [if_neg (show ¬ m < 0 by omega), Nat.sub_zero, List.drop_zero]
  rw [Nat.min_eq_right (by omega), List.take_length]
theorem fSl_lsf {ds : List D} {lo hi : Option Int} {M : HM} {Q : DK} (q : Q (.lst (cutG ds lo hi)) M) : fSl (.lsf ds) lo hi M Q := q
theorem cutG_from {α : Type} {xs : List α} {m : Int} (h0 : 0 ≤ m) (h1 : m ≤ xs.length) : cutG xs (some m) none = xs.drop m.toNat := by
  unfold cutG HT.sIx
  simp only [if_neg (show ¬ m < 0 by omega)]
  rw [Nat.min_eq_left (by omega), List.take_of_length_le (by rw [List.length_drop]; exact Nat.le_refl _)]
theorem dI_take {ns : List Int} {k : Nat} : (dI ns).take k = dI (ns.take k) := by simp [dI]
theorem dI_drop {ns : List Int} {k : Nat} : (dI ns).drop k = dI (ns.drop k) := by simp [dI]
/-! ### without noughts behind -/
def sp__law_cut : DSp := fun xs M Q _ => ∃ (x : D) (ns : List Int), xs = [x] ∧ (x = tI ns ∨ x = lI ns) ∧ ns.length ≤ 900000 ∧ Q (tI (trim ns)) M
/-! ### rows -/
def sp__law_beads : DSp := fun xs M Q _ => ∃ (t : Addr) (M0 : HM) (cells : List Int) (s l : Int) (B : Nat) (p many : Int), xs = [.ref t, .int p, .int many] ∧ M = mup M0 t (tp cells s l) ∧ TpOk cells s l B ∧ 0 < p ∧ p ≤ 1000 ∧ 0 ≤ many ∧ many ≤ 1000 ∧ B + 3000 ≤ 1000000 ∧
  ∀ ns s' l', (ns.length : Int) = many → (∀ x ∈ ns, 0 ≤ x ∧ x < p) → TpOk cells s' l' (B + (2 * many.toNat + 1)) → Q (tI ns) (mup M0 t (tp cells s' l'))
def b__law_beads : DTS := (dSeq (dAsg (dCall sp__law_pick (dCons (dVar 0) (dCons (dLst (dCons (dC (.int 1)) (dCons (dC (.int 1)) (dCons (dC (.int 3)) dNil)))) dNil))) (dgName 3)) (dRet (dCB fTuple (dCons (dComp (dIRng1 (dCons (dVar 2) dNil)) (tgN 4) dYes (dIfE (dB (dOp fEq (dCall sp__law_draw (dCons (dVar 0) (dCons (dVar 3) dNil))) (dC (.int 0)))) (dCall sp__law_draw (dCons (dVar 0) (dCons (dVar 1) dNil))) (dC (.int 0))) [4]) dNil))))
theorem hd__law_beads : ∀ (xs : List D) (M : HM) (Q : DK) (E : XDK), sp__law_beads xs M Q E → xs.length = (["_law_tape", "_law_p", "_law_many"] : List Str).length ∧ b__law_beads (ends Q E) (startD (["_law_tape", "_law_p", "_law_many", "_law_share", "_law_k"] : List Str).length xs) M := by
  rintro xs M Q E ⟨t, M0, c, s, l, B, p, many, rfl, rfl, ok, hp0, hp1, hm0, hm1, hB, q⟩
  refine ⟨rfl, ?_⟩
  simp only [b__law_beads, dNext, dSeq, dDrop, dRet, dRetN, dIf, dCall, dCB, dCBK, dCons, dNil, dVar, dC, dOp, dB, dTru, dAndT, dOrT, dNotT, dAndV, dOrV, dNotV, dIfE, dChain, dTup, dLst, dSl, dPart, dNoPart, dgName, dgTup, dgCons, dgNil, dgSub, dAsg, dPar, dAug, dNeg, ends, fLt, fLe, fGt, fGe, fSub, fMod, fDiv, fPow, fAdd, fMul, iAddI, iSubI, ii, fInt, fMax2, fMin2, fLen, fTuple, fList, List.length_cons, List.length_nil, List.map_cons, List.map_nil, startD, List.replicate, List.cons_append, List.nil_append, List.append_nil, Nat.zero_add, Nat.reduceAdd, Nat.reduceSub, List.getElem?_cons_succ, List.getElem?_cons_zero, List.set_cons_zero, List.set_cons_succ, wipeD]
  refine ⟨by decide, t, M0, c, s, l, B, _, rfl, rfl, ok, by omega, by simp, by decide, fun d hd s1 l1 ok1 => ?_⟩
  obtain ⟨sh, rfl, hs0, hs1⟩ : ∃ sh : Int, d = .int sh ∧ 0 < sh ∧ sh ≤ 3 := by
    simp only [List.mem_cons, List.not_mem_nil, or_false] at hd
    rcases hd with h | h | h <;> subst h <;> exact ⟨_, rfl, by decide, by decide⟩
  refine ⟨⟨by omega, by omega⟩, by rw [rgD_length]; omega, ?_⟩
  refine compL_inv (fun i acc M => ∃ ns s l, acc = dI ns ∧ ns.length = i ∧ (∀ x ∈ ns, 0 ≤ x ∧ x < p) ∧ TpOk c s l (B + (2 * i + 1)) ∧ M = mup M0 t (tp c s l)) _ 0 [] ?_ ?_ ⟨[], s1, l1, rfl, rfl, by simp, ok1, rfl⟩
  · rintro j x acc M hj ⟨ns, s, l, rfl, hl, hr, ok, rfl⟩
    have hjl : j < many.toNat := by
      have := (List.getElem?_eq_some_iff.mp hj).1
      rwa [rgD_length] at this
    refine ⟨_, rfl, fun Q' q' => ?_⟩
    rw [Nat.zero_add] at ok hl q'
    simp only [dNext, dSeq, dDrop, dRet, dRetN, dIf, dCall, dCB, dCBK, dCons, dNil, dVar, dC, dOp, dB, dTru, dAndT, dOrT, dNotT, dAndV, dOrV, dNotV, dIfE, dChain, dTup, dLst, dSl, dPart, dNoPart, dgName, dgTup, dgCons, dgNil, dgSub, dAsg, dPar, dAug, dNeg, ends, fLt, fLe, fGt, fGe, fSub, fMod, fDiv, fPow, fAdd, fMul, iAddI, iSubI, ii, fInt, fMax2, fMin2, fLen, fTuple, fList, List.length_cons, List.length_nil, List.map_cons, List.map_nil, startD, List.replicate, List.cons_append, List.nil_append, List.append_nil, Nat.zero_add, Nat.reduceAdd, Nat.reduceSub, List.getElem?_cons_succ, List.getElem?_cons_zero, List.set_cons_zero, List.set_cons_succ, wipeD]
    refine ⟨t, M0, c, s, l, _, _, rfl, rfl, ok, by omega, hs0, Int.le_trans hs1 (by decide), fun r s2 l2 _ _ ok2 => eq_int ?_⟩
    dsimp only
    refine ⟨fun _ => ⟨t, M0, c, s2, l2, _, _, rfl, rfl, ok2, by omega, hp0, Int.le_trans hp1 (by decide), fun r s3 l3 h0 h1 ok3 => q' _ _ ⟨ns ++ [r], s3, l3, by simp [dI], by simp [hl], ?_, ok3.mono (by omega), rfl⟩⟩, fun _ => q' _ _ ⟨ns ++ [0], s2, l2, by simp [dI], by simp [hl], ?_, ok2.mono (by omega), rfl⟩⟩
    · intro x hx
      rcases List.mem_append.mp hx with h | h
      · exact hr x h
      · simp at h; subst h; exact ⟨h0, h1⟩
    · intro x hx
      rcases List.mem_append.mp hx with h | h
      · exact hr x h
      · simp at h; subst h; exact ⟨by decide, hp0⟩
  · rintro acc M ⟨ns, s, l, rfl, hl, hr, ok, rfl⟩
    rw [rgD_length, Nat.zero_add] at hl ok
    exact ⟨_, rfl, .here (q ns _ _ (by omega) hr ok)⟩
def sp__law_finite : DSp := fun xs M Q _ => ∃ (t : Addr) (M0 : HM) (cells : List Int) (s l : Int) (B : Nat) (p most : Int), xs = [.ref t, .int p, .int most] ∧ M = mup M0 t (tp cells s l) ∧ TpOk cells s l B ∧ 0 < p ∧ p ≤ 1000 ∧ 0 ≤ most ∧ most ≤ 900 ∧ B + 4000 ≤ 1000000 ∧
  ∀ ns s' l', (ns.length : Int) ≤ most → (∀ x ∈ ns, 0 ≤ x ∧ x < p) → Tr ns → TpOk cells s' l' (B + (2 * most.toNat + 2)) → Q (tI ns) (mup M0 t (tp cells s' l'))
def b__law_finite : DTS := (dRet (dCall sp__law_cut (dCons (dCall sp__law_beads (dCons (dVar 0) (dCons (dVar 1) (dCons (dCall sp__law_draw (dCons (dVar 0) (dCons (dOp fAdd (dVar 2) (dC (.int 1))) dNil))) dNil)))) dNil)))
theorem hd__law_finite : ∀ (xs : List D) (M : HM) (Q : DK) (E : XDK), sp__law_finite xs M Q E → xs.length = (["_law_tape", "_law_p", "_law_most"] : List Str).length ∧ b__law_finite (ends Q E) (startD (["_law_tape", "_law_p", "_law_most"] : List Str).length xs) M := by
  rintro xs M Q E ⟨t, M0, c, s, l, B, p, most, rfl, rfl, ok, hp0, hp1, hm0, hm1, hB, q⟩
  refine ⟨rfl, ?_⟩
  simp only [b__law_finite, dNext, dSeq, dDrop, dRet, dRetN, dIf, dCall, dCB, dCBK, dCons, dNil, dVar, dC, dOp, dB, dTru, dAndT, dOrT, dNotT, dAndV, dOrV, dNotV, dIfE, dChain, dTup, dLst, dSl, dPart, dNoPart, dgName, dgTup, dgCons, dgNil, dgSub, dAsg, dPar, dAug, dNeg, ends, fLt, fLe, fGt, fGe, fSub, fMod, fDiv, fPow, fAdd, fMul, iAddI, iSubI, ii, fInt, fMax2, fMin2, fLen, fTuple, fList, List.length_cons, List.length_nil, List.map_cons, List.map_nil, startD, List.replicate, List.cons_append, List.nil_append, List.append_nil, Nat.zero_add, Nat.reduceAdd, Nat.reduceSub, List.getElem?_cons_succ, List.getElem?_cons_zero, List.set_cons_zero, List.set_cons_succ, wipeD]
  refine ⟨t, M0, c, s, l, B, _, rfl, rfl, ok, by omega, by omega, Int.le_trans (show most + 1 ≤ 1000 by omega) (by decide), fun r s1 l1 h0 h1 ok1 => ?_⟩
  refine ⟨t, M0, c, s1, l1, _, p, r, rfl, rfl, ok1, hp0, hp1, h0, by omega, by omega, fun ns s2 l2 hl hr ok2 => ?_⟩
  refine ⟨tI ns, ns, rfl, .inl rfl, by omega, .here (q _ _ _ ?_ (fun x hx => hr x (trim_mem hx)) (trim_trim _) (ok2.mono (by omega)))⟩
  have := trim_len ns
  omega
def sp__law_begun : DSp := fun xs M Q _ => ∃ ns : List Int, xs = [.lsf (dI ns)] ∧ ns.length ≤ 63 ∧ ∀ a cells, M a = none → TpOk cells 0 0 0 → Q (.ref a) (mup M a (tp cells 0 0))
def b__law_begun : DTS := (dRet (dDisp [((dC (.str "cells")), (dOrV (dSl (dVar 0) dNoPart (dPart (dC (.int 63)))) (dLst (dCons (dC (.int 0)) dNil)))), ((dC (.str "spot")), (dC (.int 0))), ((dC (.str "left")), (dC (.int 0)))]))
theorem hd__law_begun : ∀ (xs : List D) (M : HM) (Q : DK) (E : XDK), sp__law_begun xs M Q E → xs.length = (["_law_script"] : List Str).length ∧ b__law_begun (ends Q E) (startD (["_law_script"] : List Str).length xs) M := by
  rintro xs M Q E ⟨ns, rfl, hl, q⟩
  refine ⟨rfl, ?_⟩
  have key : ∀ cells : List Int, cells ≠ [] → cells.length ≤ 63 → ∃ kvs, keyPs [(D.str ("cells" : Str), lI cells), (D.str ("spot" : Str), D.int 0), (D.str ("left" : Str), D.int 0)] = some kvs ∧ kvs.length ≤ 15 ∧ ∀ (a : Addr), M a = none → RetK Q (D.ref a) (mup M a (MO.dK (mergeD [] kvs))) := by
    intro cells hn hl
    refine ⟨_, rfl, by simp, fun a ha => .here ?_⟩
    have e : mergeD [] [((Sum.inr ("cells" : Str) : Key), lI cells), (.inr ("spot" : Str), .int 0), (.inr ("left" : Str), .int 0)] = [((Sum.inr ("cells" : Str) : Key), lI cells), (.inr ("spot" : Str), .int 0), (.inr ("left" : Str), .int 0)] := by
      simp [mergeD, putD, kCS, kCL, kSL]
    rw [e]
    exact q a cells ha ⟨hn, hl, by decide, by decide, by decide⟩
  simp only [b__law_begun, dNext, dSeq, dDrop, dRet, dRetN, dIf, dCall, dCB, dCBK, dCons, dNil, dVar, dC, dOp, dB, dTru, dAndT, dOrT, dNotT, dAndV, dOrV, dNotV, dIfE, dChain, dTup, dLst, dSl, dPart, dNoPart, dgName, dgTup, dgCons, dgNil, dgSub, dAsg, dPar, dAug, dNeg, ends, fLt, fLe, fGt, fGe, fSub, fMod, fDiv, fPow, fAdd, fMul, iAddI, iSubI, ii, fInt, fMax2, fMin2, fLen, fTuple, fList, List.length_cons, List.length_nil, List.map_cons, List.map_nil, startD, List.replicate, List.cons_append, List.nil_append, List.append_nil, Nat.zero_add, Nat.reduceAdd, Nat.reduceSub, List.getElem?_cons_succ, List.getElem?_cons_zero, List.set_cons_zero, List.set_cons_succ, wipeD, dDisp, dPairs]
  refine fSl_lsf ?_
  rw [cutG_big (by simp; omega)]
  simp only [tru]
  by_cases hn : ns = []
  · subst hn
    exact ⟨fun z => (nomatch z), fun _ => ⟨by decide, key [0] (by simp) (by decide)⟩⟩
  · refine ⟨fun _ => key ns hn hl, fun z => absurd ?_ hn⟩
    cases ns with
    | nil => rfl
    | cons a l => cases z
end DL

set_option Elab.async false
set_option linter.all false
set_option maxRecDepth 100000
set_option maxHeartbeats 400000
namespace DL
open PySem PySem.Spec PyProof.Rows L2
open PySem.W (Frag)
variable [TB]
/-! ### rows compared -/
theorem toPys_dI : ∀ ns : List Int, toPys (dI ns) = ns.map PyData.int
  | [] => rfl
  | n :: ns => by show PyData.int n :: toPys (dI ns) = _; rw [toPys_dI ns]; rfl
theorem isDs_dI : ∀ ns : List Int, isDs (dI ns) = true
  | [] => rfl
  | n :: ns => by show (true && isDs (dI ns)) = true; rw [isDs_dI ns]; rfl
theorem depth_ints : ∀ ns : List Int, PyData.depthAll (ns.map PyData.int) = 0
  | [] => rfl
  | n :: ns => by show max 0 (PyData.depthAll (ns.map PyData.int)) = 0; rw [depth_ints ns]; rfl
theorem okD_tI (ns : List Int) : okD (tI ns) = true := by
  unfold okD
  have h1 : isD (tI ns) = true := isDs_dI ns
  have h2 : (toPy (tI ns)).depth = 1 := by show PyData.depthAll (toPys (dI ns)) + 1 = 1; rw [toPys_dI, depth_ints]
  rw [h1, h2]; rfl
theorem okD_lI (ns : List Int) : okD (lI ns) = true := by
  unfold okD
  have h1 : isD (lI ns) = true := isDs_dI ns
  have h2 : (toPy (lI ns)).depth = 1 := by show PyData.depthAll (toPys (dI ns)) + 1 = 1; rw [toPys_dI, depth_ints]
  rw [h1, h2]; rfl
theorem eqv_ints : ∀ a b : List Int, PyData.eqvAll (a.map PyData.int) (b.map PyData.int) = decide (a = b)
  | [], [] => rfl
  | [], _ :: _ => rfl
  | _ :: _, [] => rfl
  | x :: a, y :: b => by
    show (x == y && PyData.eqvAll (a.map PyData.int) (b.map PyData.int)) = _
    rw [eqv_ints a b]
    by_cases h : x = y <;> by_cases h2 : a = b <;> simp [h, h2]
theorem eq_tI {a b : List Int} {M : HM} {Q : DK} (q : Q (.bl (decide (a = b))) M) : fEq (tI a) (tI b) M Q := by
  refine .inl ⟨okD_tI a, okD_tI b, ?_⟩
  have e : eqD (rd M (tI a)) (rd M (tI b)) = decide (a = b) := by
    show PyData.eqvAll (toPys (dI a)) (toPys (dI b)) = _
    rw [toPys_dI, toPys_dI, eqv_ints]
  rw [e]; exact q
theorem ne_tI {a b : List Int} {M : HM} {Q : DK} (q : Q (.bl (!decide (a = b))) M) : fNe (tI a) (tI b) M Q := by
  refine .inl ⟨okD_tI a, okD_tI b, ?_⟩
  have e : eqD (rd M (tI a)) (rd M (tI b)) = decide (a = b) := by
    show PyData.eqvAll (toPys (dI a)) (toPys (dI b)) = _
    rw [toPys_dI, toPys_dI, eqv_ints]
  rw [e]; exact q
theorem ne_str {a b : Str} {M : HM} {Q : DK} (q : Q (.bl (!decide (a = b))) M) : fNe (.str a) (.str b) M Q := .inr (.inr ⟨a, b, rfl, rfl, q⟩)
theorem eq_str {a b : Str} {M : HM} {Q : DK} (q : Q (.bl (decide (a = b))) M) : fEq (.str a) (.str b) M Q := .inr (.inr ⟨a, b, rfl, rfl, q⟩)
/-! ### texts of rows -/
theorem small_log {i : Int} (h : i.natAbs < 10 ^ 12) : i.natAbs.log2 < 40 := PySem.Flt.log2_lt_of (by decide) (Nat.lt_trans h (by decide +kernel))
theorem weight_ints : ∀ ns : List Int, (∀ n ∈ ns, n.natAbs < 10 ^ 12) → PyData.weightAll (ns.map PyData.int) ≤ 42 * ns.length
  | [], _ => Nat.le_refl _
  | n :: ns, h => by
    show (if n == 0 then 0 else n.natAbs.log2 + 1) + 1 + PyData.weightAll (ns.map PyData.int) ≤ _
    have h1 := small_log (h n List.mem_cons_self)
    have h2 := weight_ints ns fun m hm => h m (List.mem_cons_of_mem _ hm)
    rw [List.length_cons]
    split <;> omega
theorem show_ints {ns : List Int} (h : ∀ n ∈ ns, n.natAbs < 10 ^ 12) : PyData.showableAll (ns.map PyData.int) = true := PyData.showableAll_ints ns fun n hn => Nat.lt_trans (small_log (h n hn)) (by decide)
def rowsOk (rows : List (List Int)) (k : Nat) : Prop := ∀ r ∈ rows, r.length ≤ k ∧ ∀ x ∈ r, x.natAbs < 10 ^ 12
theorem toPys_rows : ∀ rows : List (List Int), toPys (rows.map tI) = rows.map fun r => PyData.tuple (r.map PyData.int)
  | [] => rfl
  | r :: rows => by show PyData.tuple (toPys (dI r)) :: toPys (rows.map tI) = _; rw [toPys_rows rows, toPys_dI]; rfl
theorem isDs_rows : ∀ rows : List (List Int), isDs (rows.map tI) = true
  | [] => rfl
  | r :: rows => by show (isDs (dI r) && isDs (rows.map tI)) = true; rw [isDs_rows rows, isDs_dI]; rfl
theorem depth_rows : ∀ rows : List (List Int), PyData.depthAll (rows.map fun r => PyData.tuple (r.map PyData.int)) ≤ 1
  | [] => Nat.zero_le _
  | r :: rows => by
    show max (PyData.depthAll (r.map PyData.int) + 1) (PyData.depthAll (rows.map fun r => PyData.tuple (r.map PyData.int))) ≤ 1
    have := depth_rows rows
    rw [depth_ints]; omega
theorem okD_rows (rows : List (List Int)) : okD (.lst (rows.map tI)) = true := by
  unfold okD
  have h1 : isD (.lst (rows.map tI)) = true := isDs_rows rows
  have h2 : (toPy (.lst (rows.map tI))).depth ≤ 64 := by
    show PyData.depthAll (toPys (rows.map tI)) + 1 ≤ 64
    have := depth_rows rows
    rw [toPys_rows]; omega
  rw [h1, decide_eq_true h2]; rfl
theorem show_rows {k : Nat} : ∀ {rows : List (List Int)}, rowsOk rows k → PyData.showableAll (rows.map fun r => PyData.tuple (r.map PyData.int)) = true
  | [], _ => rfl
  | r :: rows, h => by
    show (PyData.showableAll (r.map PyData.int) && PyData.showableAll (rows.map fun r => PyData.tuple (r.map PyData.int))) = true
    rw [show_ints (h r List.mem_cons_self).2, show_rows fun q hq => h q (List.mem_cons_of_mem _ hq)]; rfl
theorem short_rows {k : Nat} : ∀ {rows : List (List Int)}, rowsOk rows k → PyData.intsShortAll 13 (rows.map fun r => PyData.tuple (r.map PyData.int)) = true
  | [], _ => rfl
  | r :: rows, h => by
    show (PyData.intsShortAll 13 (r.map PyData.int) && PyData.intsShortAll 13 (rows.map fun r => PyData.tuple (r.map PyData.int))) = true
    rw [PyData.intsShortAll_ints r (h r List.mem_cons_self).2, short_rows fun q hq => h q (List.mem_cons_of_mem _ hq)]; rfl
theorem weight_rows {k : Nat} : ∀ {rows : List (List Int)}, rowsOk rows k → PyData.weightAll (rows.map fun r => PyData.tuple (r.map PyData.int)) ≤ (42 * k + 1) * rows.length
  | [], _ => Nat.le_refl _
  | r :: rows, h => by
    show PyData.weightAll (r.map PyData.int) + 1 + PyData.weightAll (rows.map fun r => PyData.tuple (r.map PyData.int)) ≤ _
    have h1 := weight_ints r (h r List.mem_cons_self).2
    have h2 := weight_rows fun q hq => h q (List.mem_cons_of_mem _ hq)
    have h3 := (h r List.mem_cons_self).1
    rw [List.length_cons, Nat.mul_add]
    have : 42 * r.length ≤ 42 * k := Nat.mul_le_mul_left _ h3
    omega
theorem rp_rows {rows : List (List Int)} {k : Nat} (h : rowsOk rows k) (hz : (42 * k + 1) * rows.length ≤ 60000) : rpOk (.lst (rows.map tI)) := by
  have hs : (toPy (.lst (rows.map tI))).showable = true := by
    show PyData.showableAll (toPys (rows.map tI)) = true
    rw [toPys_rows]; exact show_rows h
  refine ⟨okD_rows rows, hs, ?_⟩
  have hc := canLay_toPy (.lst (rows.map tI)) (isD_of (okD_rows rows))
  have hi : (toPy (.lst (rows.map tI))).intsShort 13 = true := by
    show PyData.intsShortAll 13 (toPys (rows.map tI)) = true
    rw [toPys_rows]; exact short_rows h
  have := PyData.shown_le 13 (by decide) _ (PyData.leavesShort_of_canLay0 13 _ hc hi)
  have hw : (toPy (.lst (rows.map tI))).weight ≤ 60000 := by
    show PyData.weightAll (toPys (rows.map tI)) ≤ 60000
    rw [toPys_rows]; exact Nat.le_trans (weight_rows h) hz
  omega
end DL

set_option Elab.async false
set_option linter.all false
set_option maxRecDepth 100000
set_option maxHeartbeats 400000
namespace DL
open PySem PySem.Spec PyProof.Rows L2
open PySem.W (Frag)
variable [TB]

/-! ### methods of built-in things -/
abbrev DMt := D → List D → HM → DK → Prop
def liftMt (K : Frag) (mg : Str → Option Value) (od : DMt) : V → List V → Hp → VK → Prop := fun v vs H Q => ∃ x xs M Qd, RV K mg M H x v ∧ RVs K mg M H xs vs ∧ RH K mg M H ∧ od x xs (strip M) Qd ∧ HQ K mg M H Qd Q
def DMeth (X : Cx) (id : String) (od : DMt) : Prop := ∀ pn xe, MtR (X.tr pn xe) id (liftMt X.K X.mg od)
/-- of which built-in kind a thing is, that has methods -/
def knd (M : HM) : D → String
  | .str _ => "str"
  | .int _ => "int"
  | .lst _ => "list"
  | .lsf _ => "list"
  | .ref a => (match M a with
    | some (.lst _) => "list"
    | some (.dK _) => "dict"
    | _ => "")
  | _ => ""
theorem knd_of {K : Frag} {mg : Str → Option Value} {M : HM} {H : Hp} {d : D} {v : V} {T : String} (rh : RH K mg M H) (r : RV K mg M H d v) (h : knd (strip M) d = T) (hn : T ≠ "") : tyV K T v H := by
  subst h
  cases r with
  | str => exact rfl
  | int => exact rfl
  | lst hm e rs => exact .inl ⟨rfl, _, SqL.of e⟩
  | lsf e rs => exact .inl ⟨rfl, _, sqL e⟩
  | @ref a =>
    unfold knd at hn ⊢
    dsimp only at hn ⊢
    split at hn
    · rename_i ds e
      obtain ⟨vs, e1, _⟩ := rh a _ (strip_some e)
      exact .inl ⟨rfl, vs, SqL.of e1⟩
    · rename_i ds e
      obtain ⟨vs, e1, _⟩ := rh a _ (strip_some e)
      exact .inr (.inr (.inl ⟨rfl, .inl ⟨_, e1⟩⟩))
    · exact absurd rfl hn
  | _ => exact absurd rfl hn
def dBM (T : String) (od : DMt) (d : DTE) (r : DTA) : DTE := fun σ M Q E => d σ M (fun x M1 => knd M1 x = T ∧ r σ M1 (fun xs M2 => od x xs M2 Q) E) E
section
variable {X : Cx} {o e : Expr} {es : List Expr} {d : DTE} {r : DTA} {name : Str} {apos cpos : Pos} {T id : String} {od : DMt}
theorem de_bm (hT : T ≠ "") (pa : PlainAttrs T) (slot : Slot T name id) (hty : typeOf (.builtin id) = pure (.type "method_descriptor")) (hm : DMeth X id od) (ho : DE X o d) (ha : DA X (e :: es) r)
    (hbase : attributeBase o name X.env (eval o X.env) = eval o X.env := by rfl)
    (hfew : ((backTo cpos (starEach (e :: es) X.env)).all (fun x => !x.1) && (backToKw cpos (keywordEach [] X.env)).all (fun x => x.1.isSome)
      && decide ((e :: es).length + ([] : List Keyword).length + (if ([] : List Keyword).isEmpty then 0 else 1) < 30)) = true := by rfl)
    (hline : (apos.endLine == cpos.line) = true := by rfl) (hs : starEach (e :: es) X.env = (false, eval e X.env) :: starEach es X.env := by rfl) (hplain : (backTo cpos (starEach es X.env)).any (·.1) = false := by rfl) :
    DE X (.Call (.Attribute o name apos) (e :: es) [] cpos) (dBM T od d r) := by
  refine ⟨fun pn xe W tk => PE.weak (pe_bm (X := X.tr pn xe) pa slot hty (hm pn xe) (ho.run pn xe W tk) (ha.run pn xe W tk) hbase hfew hline hs hplain) ?_⟩
  rintro σ H Q ⟨σd, M, Qd, Ed, rs, rh, h, hE, hQ⟩
  refine ⟨σd, M, _, Ed, rs, rh, h, hE, fun x M1 v H1 e1 rh1 r1 q1 => ⟨knd_of rh1 r1 q1.1 hT, ?_⟩⟩
  exact ⟨σd, M1, _, Ed, rs.ext e1, rh1, q1.2, hE.ext e1, fun xs M2 vs H2 e2 rh2 r2 q2 => ⟨x, xs, M2, Qd, r1.ext e2, r2, rh2, q2, (hQ.ext e1).ext e2⟩⟩
theorem de_bm0 (hT : T ≠ "") (pa : PlainAttrs T) (slot : Slot T name id) (hty : typeOf (.builtin id) = pure (.type "method_descriptor")) (hm : DMeth X id od) (ho : DE X o d)
    (hbase : attributeBase o name X.env (eval o X.env) = eval o X.env := by rfl) (hline : (apos.endLine == cpos.line) = true := by rfl) : DE X (.Call (.Attribute o name apos) [] [] cpos) (dBM T od d dNil) := by
  refine ⟨fun pn xe W tk => PE.weak (pe_bm0 (X := X.tr pn xe) pa slot hty (hm pn xe) (ho.run pn xe W tk) hbase hline) ?_⟩
  rintro σ H Q ⟨σd, M, Qd, Ed, rs, rh, h, hE, hQ⟩
  refine ⟨σd, M, _, Ed, rs, rh, h, hE, fun x M1 v H1 e1 rh1 r1 q1 => ⟨knd_of rh1 r1 q1.1 hT, ⟨x, [], M1, Qd, r1, .nil, rh1, q1.2, hQ.ext e1⟩⟩⟩
/-- a list to be changed, and what is done to it -/
theorem mt_chg {f : List D → D → List D → Prop} {K : Frag} {mg : Str → Option Value} {M : HM} {H : Hp} {a : Addr} {ds : List D} {vs : List V} {ds' : List D} {vs' : List V} {Qd : DK} {Q : VK} {y : D} {v : V} (hQ : HQ K mg M H Qd Q) (rh : RH K mg M H) (em : M a = some (.lst ds)) (eh : H a = some (.lst vs))
    (r : RVs K mg M H ds' vs') (ry : RV K mg M H y v) (q : Qd y (mup (strip M) a (.lst ds'))) : Q v (upd H a (.lst vs')) := by
  have hm : M a ≠ none := by rw [em]; simp
  have nm : shy (M a) = false := by rw [em]; rfl
  have nh : shy (some (MO.lst ds')) = false := rfl
  have ex : Ext M H (mup M a (.lst ds')) (upd H a (.lst vs')) := Ext.wr hm nm nh
  exact hQ _ _ _ _ ex (rh.wr hm nm nh ⟨vs', upd_same, r.ext ex⟩) (ry.ext ex) (by rw [strip_mup nh]; exact q)
def mutOf (M : HM) : D → Option (Addr × List D)
  | .ref a => (match M a with
    | some (.lst ds) => some (a, ds)
    | _ => none)
  | _ => none
theorem mut_of {K : Frag} {mg : Str → Option Value} {M : HM} {H : Hp} {d : D} {v : V} {a : Addr} {ds : List D} (rh : RH K mg M H) (r : RV K mg M H d v) (h : mutOf (strip M) d = some (a, ds)) : v = .ref a ∧ M a = some (.lst ds) ∧ ∃ vs, H a = some (.lst vs) ∧ RVs K mg M H ds vs := by
  cases r with
  | @ref b =>
    unfold mutOf at h
    dsimp only at h
    split at h
    · rename_i ds' e
      cases h
      exact ⟨rfl, strip_some e, rh a _ (strip_some e)⟩
    · cases h
  | _ => cases h
def fAppend : DMt := fun o xs M Q => match xs with
  | [x] => ∃ a ds, mutOf M o = some (a, ds) ∧ ds.length < 1000000 ∧ Q .non (mup M a (.lst (ds ++ [x])))
  | _ => False
theorem m_append : DMeth X "list.append" fAppend := by
  intro pn xe pins s σ H v vs u us Q I rv rvs h
  obtain ⟨x, xs, M, Qd, rx, rxs, rh, h, hQ⟩ := h
  unfold fAppend at h
  split at h
  · obtain ⟨a, ds, em, hl, q⟩ := h
    obtain ⟨rfl, em', ws, eh, rw⟩ := mut_of rh rx em
    obtain ⟨w, rfl, rw2⟩ := rxs.one
    exact mt_append (X := X.tr pn xe) pins s σ H _ _ u us Q I rv rvs ⟨a, ws, w, rfl, rfl, eh, by rw [← rw.length, sizeLine_eq]; omega, mt_chg (f := fun _ _ _ => True) hQ rh em' eh (rw.append (.cons rw2 .nil)) .non q⟩
  · exact h.elim
def fExtend : DMt := fun o xs M Q => match xs with
  | [x] => ∃ a ds es, mutOf M o = some (a, ds) ∧ trkOf M x = some es ∧ ds.length + es.length ≤ 1000000 ∧ Q .non (mup M a (.lst (ds ++ es)))
  | _ => False
theorem m_extend : DMeth X "list.extend" fExtend := by
  intro pn xe pins s σ H v vs u us Q I rv rvs h
  obtain ⟨x, xs, M, Qd, rx, rxs, rh, h, hQ⟩ := h
  unfold fExtend at h
  split at h
  · obtain ⟨a, ds, es, em, e2, hl, q⟩ := h
    obtain ⟨rfl, em', ws, eh, rw⟩ := mut_of rh rx em
    obtain ⟨w, rfl, rw2⟩ := rxs.one
    obtain ⟨b, zs, rfl, hb, rz⟩ := trk_of rh rw2 e2
    exact mt_extend (X := X.tr pn xe) pins s σ H _ _ u us Q I rv rvs ⟨a, b, ws, zs, rfl, rfl, eh, hb, by rw [← rw.length, ← rz.length]; exact le_line hl, mt_chg (f := fun _ _ _ => True) hQ rh em' eh (rw.append rz) .non q⟩
  · exact h.elim
theorem RVs.dropLast {K : Frag} {mg : Str → Option Value} {M : HM} {H : Hp} : ∀ {ds : List D} {vs : List V}, RVs K mg M H ds vs → RVs K mg M H ds.dropLast vs.dropLast
  | _, _, .nil => .nil
  | _, _, .cons r .nil => .nil
  | _, _, .cons r (.cons r2 rs) => .cons r (RVs.dropLast (.cons r2 rs))
theorem RVs.eraseIdx {K : Frag} {mg : Str → Option Value} {M : HM} {H : Hp} : ∀ {ds : List D} {vs : List V} (i : Nat), RVs K mg M H ds vs → RVs K mg M H (ds.eraseIdx i) (vs.eraseIdx i)
  | _, _, _, .nil => .nil
  | _, _, 0, .cons _ t => t
  | _, _, i + 1, .cons r t => .cons r (RVs.eraseIdx i t)
def fPop : DMt := fun o xs M Q => match xs with
  | [] => ∃ a ds x, mutOf M o = some (a, ds) ∧ ds[ds.length - 1]? = some x ∧ Q x (mup M a (.lst ds.dropLast))
  | _ => False
theorem m_pop : DMeth X "list.pop" fPop := by
  intro pn xe pins s σ H v vs u us Q I rv rvs h
  obtain ⟨x, xs, M, Qd, rx, rxs, rh, h, hQ⟩ := h
  unfold fPop at h
  split at h
  · obtain ⟨a, ds, y, em, hy, q⟩ := h
    obtain ⟨rfl, em', ws, eh, rw⟩ := mut_of rh rx em
    cases rxs
    obtain ⟨w, hw, rw2⟩ := rw.getD hy
    exact mt_pop (X := X.tr pn xe) pins s σ H _ _ u us Q I rv rvs ⟨a, ws, w, rfl, rfl, eh, by rw [← rw.length]; exact hw, mt_chg (f := fun _ _ _ => True) hQ rh em' eh rw.dropLast rw2 q⟩
  · exact h.elim
def fPopAt : DMt := fun o xs M Q => match xs with
  | [.int i] => ∃ a ds k x, mutOf M o = some (a, ds) ∧ -(2 ^ 62) ≤ i ∧ i < 2 ^ 62 ∧ ixN ds.length i = some k ∧ ds[k]? = some x ∧ Q x (mup M a (.lst (ds.eraseIdx k)))
  | _ => False
theorem m_popAt : DMeth X "list.pop" fPopAt := by
  intro pn xe pins s σ H v vs u us Q I rv rvs h
  obtain ⟨x, xs, M, Qd, rx, rxs, rh, h, hQ⟩ := h
  unfold fPopAt at h
  split at h
  · obtain ⟨a, ds, k, y, em, h1, h2, hk, hy, q⟩ := h
    obtain ⟨rfl, em', ws, eh, rw⟩ := mut_of rh rx em
    obtain ⟨w1, rfl, rw1⟩ := rxs.one
    cases rw1
    obtain ⟨w, hw, rw2⟩ := rw.getD hy
    exact mt_popAt (X := X.tr pn xe) pins s σ H _ _ u us Q I rv rvs ⟨a, ws, _, k, w, rfl, rfl, eh, by omega, by omega, by rw [← rw.length]; exact (ixN_seq hk).1, hw, mt_chg (f := fun _ _ _ => True) hQ rh em' eh (rw.eraseIdx k) rw2 q⟩
  · exact h.elim
def fReverse : DMt := fun o xs M Q => match xs with
  | [] => ∃ a ds, mutOf M o = some (a, ds) ∧ Q .non (mup M a (.lst ds.reverse))
  | _ => False
theorem m_reverse : DMeth X "list.reverse" fReverse := by
  intro pn xe pins s σ H v vs u us Q I rv rvs h
  obtain ⟨x, xs, M, Qd, rx, rxs, rh, h, hQ⟩ := h
  unfold fReverse at h
  split at h
  · obtain ⟨a, ds, em, q⟩ := h
    obtain ⟨rfl, em', ws, eh, rw⟩ := mut_of rh rx em
    cases rxs
    exact mt_reverse (X := X.tr pn xe) pins s σ H _ _ u us Q I rv rvs ⟨a, ws, rfl, rfl, eh, mt_chg (f := fun _ _ _ => True) hQ rh em' eh rw.reverse .non q⟩
  · exact h.elim
def strsOf : List D → Option (List Str)
  | [] => some []
  | .str x :: r => (strsOf r).map (x :: ·)
  | _ => none
theorem strs_map : ∀ {ds : List D} {ys : List Str}, strsOf ds = some ys → ds = ys.map D.str
  | [], _, h => by cases h; rfl
  | .str x :: r, ys, h => by
    unfold strsOf at h
    cases e : strsOf r with
    | none => rw [e] at h; cases h
    | some l => rw [e] at h; cases h; rw [strs_map e]; rfl
/-- sep.join(xs) -/
def fJoin : DMt := fun o xs M Q => match o, xs with
  | .str a, [x] => ∃ ys : List Str, seqOf M x = some (ys.map .str) ∧ (ys.map (·.length)).sum + ys.length * a.length ≤ 1000000 ∧ Q (.str (Txt.join a ys)) M
  | _, _ => False
theorem m_join : DMeth X "str.join" fJoin := by
  intro pn xe pins s σ H v vs u us Q I rv rvs h
  obtain ⟨x, xs, M, Qd, rx, rxs, rh, h, hQ⟩ := h
  unfold fJoin at h
  split at h
  · obtain ⟨ys, e, hz, q⟩ := h
    cases rx
    obtain ⟨w, rfl, rw⟩ := rxs.one
    obtain ⟨p, ws, rfl, hs, rws⟩ := seq_of rh rw e
    rw [rws.strs] at hs
    exact mt_join (X := X.tr pn xe) pins s σ H _ _ u us Q I rv rvs ⟨_, p, ys, rfl, rfl, hs, by omega, hQ _ _ _ _ .refl rh .str q⟩
  · exact h.elim
end
end DL

set_option Elab.async false
set_option linter.all false
set_option maxRecDepth 100000
set_option maxHeartbeats 400000
namespace DL
open PySem PySem.Spec PyProof.Rows L2
open PySem.W (Frag)
variable [TB]

/-! ### list(range(..)), xs[::-1] -/
theorem rg_rel {K : Frag} {mg : Str → Option Value} {M : HM} {H : Hp} {a b : Int} : RVs K mg M H (rgD a (b - a).toNat) (rgV a b) := by
  unfold rgD rgV
  generalize (b - a).toNat = n
  have : ∀ l : List Nat, RVs K mg M H (l.map fun i => D.int (a + (i : Nat))) (l.map fun i => V.int (a + (i : Nat))) := by
    intro l
    induction l with
    | nil => exact .nil
    | cons x l ih => exact .cons .int ih
  exact this _
def dLstRg1 (d : DTE) : DTE := fun σ M Q E => d σ M (fun x M1 => match x with
  | .int n => (-(2 ^ 62) ≤ n ∧ n ≤ 1000000) ∧ Q (.lst (rgD 0 n.toNat)) M1
  | _ => False) E
def dTupRg1 (d : DTE) : DTE := fun σ M Q E => d σ M (fun x M1 => match x with
  | .int n => (-(2 ^ 62) ≤ n ∧ n ≤ 1000000) ∧ Q (.tup (rgD 0 n.toNat)) M1
  | _ => False) E
def dLstRg2 (d e : DTE) : DTE := fun σ M Q E => d σ M (fun x M1 => e σ M1 (fun y M2 => match x, y with
  | .int i, .int j => (-1000000 ≤ i ∧ i ≤ 1000000 ∧ -1000000 ≤ j ∧ j ≤ 1000000) ∧ Q (.lst (rgD i (j - i).toNat)) M2
  | _, _ => False) E) E
section
variable {X : Cx} {e e2 : Expr} {d d2 : DTE} {p p2 pos pos2 : Pos}
theorem de_listRg1 (hc : X.calm = true) (hg : Gl X "list") (hm : X.mg "list" = none) (hg2 : Gl X "range") (hm2 : X.mg "range" = none) (he : DE X e d) (na : starEach [e] X.env = (false, eval e X.env) :: starEach [] X.env := by rfl)
    (nb : starEach [Expr.Call (.Name "range" p2) [e] [] pos2] X.env = (false, eval (.Call (.Name "range" p2) [e] [] pos2) X.env) :: starEach [] X.env := by rfl) : DE X (.Call (.Name "list" p) [.Call (.Name "range" p2) [e] [] pos2] [] pos) (dLstRg1 d) := by
  refine ⟨fun pn xe W tk => PE.weak (pe_listRg (X := X.tr pn xe) hc hg hm (prg_1 (X := X.tr pn xe) hg2 hm2 (he.run pn xe W tk) na) nb) ?_⟩
  rintro σ H Q ⟨σd, M, Qd, Ed, rs, rh, h, hE, hQ⟩
  refine ⟨σd, M, _, Ed, rs, rh, h, hE, fun x M1 v H1 e1 rh1 r1 q1 => ?_⟩
  dsimp only at q1
  split at q1
  · rename_i n
    cases r1
    refine ⟨_, rfl, ⟨by decide, by decide, q1.1.1, by omega, by omega⟩, fun p hp => ?_⟩
    have r := rg_rel (K := X.K) (mg := X.mg) (M := M1) (H := H1) (a := 0) (b := n)
    rw [Int.sub_zero] at r
    exact (hQ.ext e1).lst rh1 hp r q1.2
  · exact q1.elim
theorem de_tupRg1 (hc : X.calm = true) (hg : Gl X "tuple") (hm : X.mg "tuple" = none) (hg2 : Gl X "range") (hm2 : X.mg "range" = none) (he : DE X e d) (na : starEach [e] X.env = (false, eval e X.env) :: starEach [] X.env := by rfl)
    (nb : starEach [Expr.Call (.Name "range" p2) [e] [] pos2] X.env = (false, eval (.Call (.Name "range" p2) [e] [] pos2) X.env) :: starEach [] X.env := by rfl) : DE X (.Call (.Name "tuple" p) [.Call (.Name "range" p2) [e] [] pos2] [] pos) (dTupRg1 d) := by
  refine ⟨fun pn xe W tk => PE.weak (pe_tupRg (X := X.tr pn xe) hc hg hm (prg_1 (X := X.tr pn xe) hg2 hm2 (he.run pn xe W tk) na) nb) ?_⟩
  rintro σ H Q ⟨σd, M, Qd, Ed, rs, rh, h, hE, hQ⟩
  refine ⟨σd, M, _, Ed, rs, rh, h, hE, fun x M1 v H1 e1 rh1 r1 q1 => ?_⟩
  dsimp only at q1
  split at q1
  · rename_i n
    cases r1
    refine ⟨_, rfl, ⟨by decide, by decide, q1.1.1, by omega, by omega⟩, fun p hp => ?_⟩
    have r := rg_rel (K := X.K) (mg := X.mg) (M := M1) (H := H1) (a := 0) (b := n)
    rw [Int.sub_zero] at r
    exact (hQ.ext e1).tup rh1 hp r q1.2
  · exact q1.elim
theorem de_listRg2 (hc : X.calm = true) (hg : Gl X "list") (hm : X.mg "list" = none) (hg2 : Gl X "range") (hm2 : X.mg "range" = none) (he : DE X e d) (he2 : DE X e2 d2) (na : starEach [e, e2] X.env = (false, eval e X.env) :: starEach [e2] X.env := by rfl) (na2 : starEach [e2] X.env = (false, eval e2 X.env) :: starEach [] X.env := by rfl) (hp : (backTo pos2 (starEach [e2] X.env)).any (·.1) = false := by rfl)
    (nb : starEach [Expr.Call (.Name "range" p2) [e, e2] [] pos2] X.env = (false, eval (.Call (.Name "range" p2) [e, e2] [] pos2) X.env) :: starEach [] X.env := by rfl) : DE X (.Call (.Name "list" p) [.Call (.Name "range" p2) [e, e2] [] pos2] [] pos) (dLstRg2 d d2) := by
  refine ⟨fun pn xe W tk => PE.weak (pe_listRg (X := X.tr pn xe) hc hg hm (prg_2 (X := X.tr pn xe) hg2 hm2 (he.run pn xe W tk) (he2.run pn xe W tk) na na2 hp) nb) ?_⟩
  rintro σ H Q ⟨σd, M, Qd, Ed, rs, rh, h, hE, hQ⟩
  refine ⟨σd, M, _, Ed, rs, rh, h, hE, fun x M1 v H1 e1 rh1 r1 q1 => ?_⟩
  refine ⟨σd, M1, _, Ed, rs.ext e1, rh1, q1, hE.ext e1, fun y M2 u H2 e2 rh2 r2 q2 => ?_⟩
  dsimp only at q2
  split at q2
  · rename_i i j
    cases r1
    cases r2
    exact ⟨_, _, rfl, rfl, ⟨by omega, by omega, by omega, by omega, by omega⟩, fun p hp => ((hQ.ext e1).ext e2).lst rh2 hp rg_rel q2.2⟩
  · exact q2.elim
def dRevL (d : DTE) : DTE := fun σ M Q E => d σ M (fun x M1 => ∃ ds, lstOf M1 x = some ds ∧ Q (.lst ds.reverse) M1) E
theorem de_revL {k : Nat} {p1 p2 p3 : Pos} (he : DE X e d) : DE X (.Subscript e (.Slice none none (some (.UnaryOp .USub (.Constant (.int 1) k p1) p2)) p3) pos) (dRevL d) := by
  refine ⟨fun pn xe W tk => PE.weak (pe_revL (X := X.tr pn xe) (he.run pn xe W tk)) ?_⟩
  rintro σ H Q ⟨σd, M, Qd, Ed, rs, rh, h, hE, hQ⟩
  refine ⟨σd, M, _, Ed, rs, rh, h, hE, fun x M1 v H1 e1 rh1 r1 ⟨ds, e, q⟩ => ?_⟩
  obtain ⟨a, vs, rfl, hs, rv⟩ := lst_of rh1 r1 e
  exact ⟨a, vs, rfl, hs, fun p hp => (hQ.ext e1).lst rh1 hp rv.reverse q⟩
end
/-! ### raise X(), X an own class without __init__ -/
structure XOwn (K : Frag) (mg : Str → Option Value) (n : Str) : Prop where
  ex : ∃ (C : Addr) (bmB : List Value) (B newId initId : String), ExcBaseFacts B newId initId bmB ∧ PySem.W.excIn K C bmB newId = true ∧ mg n = some (.ref C) ∧ PySem.W.keepIn K (.ref C) = true ∧
    PySem.W.subIn K (.ref C) (.type "BaseException") = some true ∧ PySem.W.typeIn K (.ref C) = some (.type "type")
theorem pmk_own0 {X : Cx} {C : Addr} {bmB : List Value} {B newId initId : String} {x : Str} {p pos : Pos} (F : ExcBaseFacts B newId initId bmB) (q : PySem.W.excIn X.K C bmB newId = true) (gC : X.mg x = some (.ref C)) (kC : PySem.W.keepIn X.K (.ref C) = true) (r : Raises X (.ref C)) (hg : Gl X x)
    (hdb : (x == ("__debug__" : Str)) = false := by decide) : PMk X (.Call (.Name x p) [] [] pos) (fun _ H Q => Q (.ref C) none H) := by
  intro pins s σ H Q I h
  refine wpAny_Call_Name_kw (ld_glob I hg gC ?_ hdb)
  refine PySem.W.callWith_K0 I.kIn kC ?_
  obtain ⟨bm, N, nm, qn, bs, hdct, sn, sub, ab, col, dd, k0, k1, k2, k3, k5, mN, hC, hN, hni, T⟩ := exc_obj I.kIn q
  exact wpAny_call_exc_subT F T hC hN hni (fun h' e hm => mk_of I hm r h (I.hok.gone hm.new)) (Nat.zero_le _)
def dRaise0 (n : Str) : DTS := fun D σ M => D.ex ⟨n, []⟩ σ M
theorem ds_raise0 {X : Cx} {x : Str} {p pos pos' : Pos} (hc : X.calm = true) (T : XOwn X.K X.mg x) (hg : Gl X x) (hdb : (x == ("__debug__" : Str)) = false := by decide) : DS X (.Raise (some (.Call (.Name x p) [] [] pos)) none pos') (dRaise0 x) := by
  obtain ⟨C, bmB, B, newId, initId, F, q, gC, kC, h1, h2⟩ := T.ex
  refine ⟨fun pn xe W tk po => PS.weak (ps_raise (X := X.tr pn xe) hc tk.tk (pmk_own0 (X := X.tr pn xe) F q gC kC (raises_own h1 h2) hg hdb)) ?_⟩
  rintro σ H D ⟨σd, M, Dd, rs, rh, h, hD⟩
  exact hD.ex ⟨x, []⟩ σd M σ H (.ref C) none .refl rh rs ⟨.inl gC, rfl⟩ h
/-! ### try: .. except X: .. -/
/-- which of the raised classes an except clause catches -/
structure Catch (K : Frag) (mg : Str → Option Value) (c : Value) (mt : Str → Option Bool) : Prop where
  ok : ∀ n b, mt n = some b → ∀ cls, (mg n = some cls ∨ (mg n = none ∧ bootBuiltins n = some cls)) → PySem.W.exmOne K cls c = some b
def dTryO (mt : Str → Option Bool) (tb ts : DTS) : DTS := fun D σ M => tb { D with ex := fun x σ' M' => ∃ b, mt x.n = some b ∧ (b = true → ts { D with ex := fun _ _ _ => False } σ' M') ∧ (b = false → D.ex x σ' M') } σ M
theorem ds_tryO {X : Cx} {x : Str} {c : Value} {mt : Str → Option Bool} {body suite : List Stmt} {b₀ : Stmt} {np pos pos' : Pos} {tb ts : DTS} (hX : X.pn = []) (hs : X.stack = X.env :: X.outer) (hf : X.env.frame = some X.env.locals) (hc : Names X x c) (T : Catch X.K X.mg c mt)
    (hb : DSs X body tb) (hsu : ∀ a oe pn, DSs (X.suite a ((a, oe) :: pn)) (b₀ :: suite) ts) : DS X (.Try body [.ExceptHandler (some (.Name x np)) none (b₀ :: suite) pos'] [] [] pos) (dTryO mt tb ts) := by
  refine ⟨fun pn xe W tk po => PS.weak (ps_try_only (X := X.tr pn xe) (tb := fun W => liftS X.K X.mg W tb) (ts := fun _ _ _ => liftS X.K X.mg (fun _ _ _ _ => False) ts) hs hf hc tk.tk (fun W' pn' xe' tk' po' => hb.run pn' xe' W' ⟨tk', fun q z => by rw [hX] at z; exact nomatch z⟩ po')
    (fun a oe cls d pn' _ _ => (hsu a oe pn').run ((a, oe) :: pn') (fun _ _ => False) (fun _ _ _ _ => False) ⟨takes0, fun _ z => z⟩ PassesOwn.never)) ?_⟩
  rintro σ H D ⟨σd, M, Dd, rs, rh, h, hD⟩
  refine ⟨σd, M, _, rs, rh, h, ⟨hD.nx, hD.rt, hD.bk, hD.ct, ?_⟩⟩
  rintro x σd' M' σ' H' cls dd e rh' rs' rx ⟨b, hb, q1, q2⟩
  have hD' := hD.ext e
  refine ⟨b, T.ok _ _ hb _ rx.1, fun eb a ha => ⟨σd', M', _, rs', rh', q1 eb, ⟨hD'.nx, hD'.rt, hD'.bk, hD'.ct, fun _ _ _ _ _ _ _ _ _ _ _ z => z.elim⟩⟩, fun eb => hD.ex _ _ _ _ _ _ _ e rh' rs' rx (q2 eb)⟩
end DL

set_option Elab.async false
set_option linter.all false
set_option maxRecDepth 100000
set_option maxHeartbeats 400000
namespace DL
open PySem PySem.Spec PyProof.Rows L2
open PySem.W (Frag)
variable [TB]

def dLstRg1M (d : DTE) : DTE := fun σ M Q E => d σ M (fun x M1 => match x with
  | .int n => (-(2 ^ 62) ≤ n ∧ n ≤ 1000000) ∧ ∀ a, M1 a = none → Q (.ref a) (mup M1 a (.lst (rgD 0 n.toNat)))
  | _ => False) E
section
variable {X : Cx} {e e2 : Expr} {d d2 : DTE} {p p2 pos pos2 : Pos}
theorem de_listRg1M (hc : X.calm = true) (hg : Gl X "list") (hm : X.mg "list" = none) (hg2 : Gl X "range") (hm2 : X.mg "range" = none) (he : DE X e d) (na : starEach [e] X.env = (false, eval e X.env) :: starEach [] X.env := by rfl)
    (nb : starEach [Expr.Call (.Name "range" p2) [e] [] pos2] X.env = (false, eval (.Call (.Name "range" p2) [e] [] pos2) X.env) :: starEach [] X.env := by rfl) : DE X (.Call (.Name "list" p) [.Call (.Name "range" p2) [e] [] pos2] [] pos) (dLstRg1M d) := by
  refine ⟨fun pn xe W tk => PE.weak (pe_listRg (X := X.tr pn xe) hc hg hm (prg_1 (X := X.tr pn xe) hg2 hm2 (he.run pn xe W tk) na) nb) ?_⟩
  rintro σ H Q ⟨σd, M, Qd, Ed, rs, rh, h, hE, hQ⟩
  refine ⟨σd, M, _, Ed, rs, rh, h, hE, fun x M1 v H1 e1 rh1 r1 q1 => ?_⟩
  dsimp only at q1
  split at q1
  · rename_i n
    cases r1
    refine ⟨_, rfl, ⟨by decide, by decide, q1.1.1, by omega, by omega⟩, fun p hp => ?_⟩
    have r := rg_rel (K := X.K) (mg := X.mg) (M := M1) (H := H1) (a := 0) (b := n)
    rw [Int.sub_zero] at r
    exact (hQ.ext e1).lstM rh1 hp r (q1.2 p (strip_none (rh1.free hp)))
  · exact q1.elim
def dPar3 (i j l : Nat) (r : DTA) : DTS := fun D σ M => r σ M (fun xs M1 => match xs with
  | [x, y, z] => D.nx (((σ.set i (some x)).set j (some y)).set l (some z)) M1
  | _ => False) (fun x M1 => D.ex x σ M1)
theorem RVs.three {K : Frag} {mg : Str → Option Value} {M : HM} {H : Hp} {x y z : D} {vs : List V} (r : RVs K mg M H [x, y, z] vs) : ∃ u v w, vs = [u, v, w] ∧ RV K mg M H x u ∧ RV K mg M H y v ∧ RV K mg M H z w := by
  cases r with
  | cons r1 rs =>
    cases rs with
    | cons r2 rs =>
      cases rs with
      | cons r3 rs =>
        cases rs
        exact ⟨_, _, _, rfl, r1, r2, r3⟩
theorem ds_par3 {i j l : Nat} {x y z : Str} {a b c : Expr} {r : DTA} {px py pz pt : Pos} {kt k2 pt2} (hc : X.calm = true) (hN : X.N.Nodup) (ha : DA X [a, b, c] r) (hij : i ≠ j := by decide) (hil : i ≠ l := by decide) (hjl : j ≠ l := by decide) (hi : X.N[i]? = some x := by rfl) (hj : X.N[j]? = some y := by rfl) (hl : X.N[l]? = some z := by rfl)
    (hx : X.env.scope.names.lookup x = some .local := by rfl) (hy : X.env.scope.names.lookup y = some .local := by rfl) (hz : X.env.scope.names.lookup z = some .local := by rfl)
    (hw : swappedStores [.Tuple [.Name x px, .Name y py, .Name z pz] kt pt] (.Tuple [a, b, c] k2 pt2) X.env = pure (some [x, y, z]) := by rfl)
    (hs : swapsWithSole [.Tuple [.Name x px, .Name y py, .Name z pz] kt pt] (.Tuple [a, b, c] k2 pt2) pos.line X.env = pure false := by rfl) :
    DS X (.Assign [.Tuple [.Name x px, .Name y py, .Name z pz] kt pt] (.Tuple [a, b, c] k2 pt2) pos) (dPar3 i j l r) := by
  refine ⟨fun pn xe W tk po => PS.weak (ps_par3 (X := X.tr pn xe) hc hN hi hj hl hij hil hjl hx hy hz (ha.run pn xe W tk) hw hs) ?_⟩
  rintro σ H D ⟨σd, M, Dd, rs, rh, h, hD⟩
  refine ⟨σd, M, _, _, rs, rh, h, hD.ex.he rs, fun xs M1 vs H1 e1 rh1 r1 q1 => ?_⟩
  dsimp only at q1
  split at q1
  · obtain ⟨u, v, w, rfl, ra, rb, rc⟩ := r1.three
    exact ⟨u, v, w, rfl, hD.nx _ _ _ _ e1 rh1 ((((rs.ext e1).set ra i).set rb j).set rc l) q1⟩
  · exact q1.elim
end
end DL

set_option Elab.async false
set_option linter.all false
set_option maxRecDepth 100000
set_option maxHeartbeats 400000
namespace DL
open PySem PySem.Spec PyProof.Rows L2
open PySem.W (Frag)
variable [TB]
/-! ### sums and products of rows -/
def zipR (n : Nat) (f : Nat → Int) : List Int := (List.range n).map f
theorem ati_zipR {n : Nat} {f : Nat → Int} {k : Nat} : ati (zipR n f) k = if k < n then f k else 0 := ati_range
theorem dI_zipR {n : Nat} {f : Nat → Int} : dI (zipR n f) = (List.range n).map fun i => D.int (f i) := by simp [zipR, dI, Function.comp_def]
def sp__law_at : DSp := fun xs M Q _ => ∃ (ns : List Int) (k : Int), xs = [tI ns, .int k] ∧ 0 ≤ k ∧ Q (.int (ati ns k.toNat)) M
def b__law_at : DTS := (dRet (dIfE (dB (dOp fLt (dVar 1) (dCB fLen (dCons (dVar 0) dNil)))) (dOp fIx (dVar 0) (dVar 1)) (dC (.int 0))))
theorem hd__law_at : ∀ (xs : List D) (M : HM) (Q : DK) (E : XDK), sp__law_at xs M Q E → xs.length = (["_law_beads_here", "_law_k"] : List Str).length ∧ b__law_at (ends Q E) (startD (["_law_beads_here", "_law_k"] : List Str).length xs) M := by
  rintro xs M Q E ⟨ns, k, rfl, h0, q⟩
  refine ⟨rfl, ?_⟩
  simp only [b__law_at, dNext, dSeq, dDrop, dRet, dRetN, dIf, dCall, dCB, dCBK, dCons, dNil, dVar, dC, dOp, dB, dTru, dAndT, dOrT, dNotT, dAndV, dOrV, dNotV, dIfE, dChain, dTup, dLst, dSl, dPart, dNoPart, dgName, dgTup, dgCons, dgNil, dgSub, dAsg, dPar, dAug, dNeg, ends, fLt, fLe, fGt, fGe, fSub, fMod, fDiv, fPow, fAdd, fMul, iAddI, iSubI, ii, fInt, fMax2, fMin2, fLen, fTuple, fList, List.length_cons, List.length_nil, List.map_cons, List.map_nil, startD, List.replicate, List.cons_append, List.nil_append, List.append_nil, Nat.zero_add, Nat.reduceAdd, Nat.reduceSub, List.getElem?_cons_succ, List.getElem?_cons_zero, List.set_cons_zero, List.set_cons_succ, wipeD]
  refine ⟨_, rfl, fun h => ?_, fun h => ?_⟩
  · have h' : k < ns.length := by simpa using h
    exact ⟨_, by rw [ix_tup, atI_dI h0 h'], .here q⟩
  · have h' : ¬ k < ns.length := by simpa using h
    rw [ati_ge (by omega)] at q
    exact .here q
def sp_bead_at : DSp := sp__law_at
def b_bead_at : DTS := (dRet (dIfE (dB (dOp fLt (dVar 1) (dCB fLen (dCons (dVar 0) dNil)))) (dOp fIx (dVar 0) (dVar 1)) (dC (.int 0))))
theorem hd_bead_at : ∀ (xs : List D) (M : HM) (Q : DK) (E : XDK), sp_bead_at xs M Q E → xs.length = (["beads", "place"] : List Str).length ∧ b_bead_at (ends Q E) (startD (["beads", "place"] : List Str).length xs) M := by
  exact hd__law_at
theorem lst_ix {M : HM} {x : D} {ds : List D} {i : Int} (h : lstOf M x = some ds) : ixOf M x (.int i) = atI ds i := by
  cases x with
  | lst es => cases h; rfl
  | lsf es => cases h; rfl
  | ref a =>
    have h' : M a = some (.lst ds) := by
      unfold lstOf at h
      dsimp only at h
      split at h
      · rename_i e; cases h; exact e
      · cases h
    have e1 : dicOf M (.ref a) = none := by unfold dicOf; dsimp only; rw [h']
    unfold ixOf
    rw [e1]
    have e2 : seqOf M (.ref a) = some ds := h
    dsimp only
    rw [e2]
  | _ => cases h
theorem lst_len {M : HM} {x : D} {ds : List D} (h : lstOf M x = some ds) : lenOf M x = some (ds.length : Int) := by
  cases x with
  | lst es => cases h; rfl
  | lsf es => cases h; rfl
  | ref a =>
    have h' : M a = some (.lst ds) := by
      unfold lstOf at h
      dsimp only at h
      split at h
      · rename_i e; cases h; exact e
      · cases h
    have e1 : dicOf M (.ref a) = none := by unfold dicOf; dsimp only; rw [h']
    unfold lenOf
    rw [e1]
    have e2 : seqOf M (.ref a) = some ds := h
    dsimp only
    rw [e2]
  | _ => cases h
theorem lst_cut {M : HM} {x : D} {ds : List D} {lo hi : Option Int} {Q : DK} (h : lstOf M x = some ds) (q : Q (.lst (cutG ds lo hi)) M) : fSl x lo hi M Q := by
  cases x with
  | lst es => cases h; exact q
  | lsf es => cases h; exact q
  | ref a =>
    show match lstOf M (.ref a) with | some ds => _ | none => False
    rw [h]; exact q
  | _ => cases h
theorem seq_or {M : HM} {x : D} {ds : List D} (h : seqOf M x = some ds) : x = .tup ds ∨ lstOf M x = some ds := by
  cases x with
  | tup es => cases h; exact .inl rfl
  | _ => exact .inr h
theorem seq_ix {M : HM} {x : D} {ds : List D} {i : Int} (h : seqOf M x = some ds) : ixOf M x (.int i) = atI ds i := by
  rcases seq_or h with rfl | h
  · rfl
  · exact lst_ix h
theorem seq_len {M : HM} {x : D} {ds : List D} (h : seqOf M x = some ds) : lenOf M x = some (ds.length : Int) := by
  rcases seq_or h with rfl | h
  · rfl
  · exact lst_len h
def sp_trimmed : DSp := fun xs M Q _ => ∃ (x : D) (ns : List Int), xs = [x] ∧ seqOf M x = some (dI ns) ∧ Q (tI (trim ns)) M
def b_trimmed : DTS := (dSeq (dAsg (dCB fLen (dCons (dVar 0) dNil)) (dgName 1)) (dSeq (dWhile (dAndT (dB (dOp fGt (dVar 1) (dC (.int 0)))) (dB (dOp fEq (dOp fIx (dVar 0) (dOp fSub (dVar 1) (dC (.int 1)))) (dC (.int 0))))) (dAug 1 (dC (.int 1)) iSubI)) (dRet (dCB fTuple (dCons (dSl (dVar 0) dNoPart (dPart (dVar 1))) dNil)))))
theorem hd_trimmed : ∀ (xs : List D) (M : HM) (Q : DK) (E : XDK), sp_trimmed xs M Q E → xs.length = (["beads"] : List Str).length ∧ b_trimmed (ends Q E) (startD (["beads", "many"] : List Str).length xs) M := by
  rintro xs M Q E ⟨x, ns, rfl, hx, q⟩
  refine ⟨rfl, ?_⟩
  simp only [b_trimmed, dNext, dSeq, dDrop, dRet, dRetN, dIf, dCall, dCB, dCBK, dCons, dNil, dVar, dC, dOp, dB, dTru, dAndT, dOrT, dNotT, dAndV, dOrV, dNotV, dIfE, dChain, dTup, dLst, dSl, dPart, dNoPart, dgName, dgTup, dgCons, dgNil, dgSub, dAsg, dPar, dAug, dNeg, ends, fLt, fLe, fGt, fGe, fSub, fMod, fDiv, fPow, fAdd, fMul, iAddI, iSubI, ii, fInt, fMax2, fMin2, fLen, fTuple, fList, List.length_cons, List.length_nil, List.map_cons, List.map_nil, startD, List.replicate, List.cons_append, List.nil_append, List.append_nil, Nat.zero_add, Nat.reduceAdd, Nat.reduceSub, List.getElem?_cons_succ, List.getElem?_cons_zero, List.set_cons_zero, List.set_cons_succ, wipeD, dWhile]
  refine ⟨_, seq_len hx, fun m σ M' => M' = M ∧ m ≤ ns.length ∧ σ = [some x, some (.int (m : Int))] ∧ ∀ k, m ≤ k → ati ns k = 0, ⟨ns.length, rfl, Nat.le_refl _, by simp, fun k hk => ati_ge hk⟩, ?_⟩
  rintro m σ M' ⟨rfl, hm, rfl, hz⟩
  simp only [dNext, dSeq, dDrop, dRet, dRetN, dIf, dCall, dCB, dCBK, dCons, dNil, dVar, dC, dOp, dB, dTru, dAndT, dOrT, dNotT, dAndV, dOrV, dNotV, dIfE, dChain, dTup, dLst, dSl, dPart, dNoPart, dgName, dgTup, dgCons, dgNil, dgSub, dAsg, dPar, dAug, dNeg, ends, fLt, fLe, fGt, fGe, fSub, fMod, fDiv, fPow, fAdd, fMul, iAddI, iSubI, ii, fInt, fMax2, fMin2, fLen, fTuple, fList, List.length_cons, List.length_nil, List.map_cons, List.map_nil, startD, List.replicate, List.cons_append, List.nil_append, List.append_nil, Nat.zero_add, Nat.reduceAdd, Nat.reduceSub, List.getElem?_cons_succ, List.getElem?_cons_zero, List.set_cons_zero, List.set_cons_succ, wipeD]
  have fin : (m = 0 ∨ ati ns (m - 1) ≠ 0) → fSl x none (some (m : Int)) M' fun x M1 => ∃ ds, seqOf M1 x = some ds ∧ RetK Q (.tup ds) M1 := fun h => by
    have e : RetK Q (.tup (cutG (dI ns) none (some (m : Int)))) M' := by
      refine .here ?_
      rw [cutG_to (by omega) (by simp; omega), dI_take, Int.toNat_natCast, take_trim hm hz h]
      exact q
    rcases seq_or hx with rfl | hx
    · exact ⟨_, rfl, e⟩
    · exact lst_cut hx ⟨_, rfl, e⟩
  refine ⟨fun h0 => ?_, fun h0 => ⟨fun z => (nomatch z), fun _ => fin (.inl ?_)⟩⟩
  · have hm0 : 0 < m := by simpa using h0
    refine ⟨.int (ati ns (m - 1)), ?_, ?_⟩
    · rw [seq_ix hx, atI_dI (by omega) (by omega)]
      have e : ((m : Int) - 1).toNat = m - 1 := by omega
      rw [e]
    · refine eq_int ?_
      dsimp only
      refine ⟨fun he => ⟨m - 1, by omega, rfl, by omega, ?_, fun k hk => ?_⟩, fun he => fin (.inr (by simpa using he))⟩
      · have e : (m : Int) - 1 = ((m - 1 : Nat) : Int) := by omega
        rw [e]
      · by_cases hk' : k = m - 1
        · rw [hk']; simpa using he
        · exact hz k (by omega)
  · simpa using h0
def sp_added : DSp := fun xs M Q _ => ∃ (p : Int) (a b : List Int), xs = [.int p, tI a, tI b] ∧ 0 < p ∧ a.length ≤ 100000 ∧ b.length ≤ 100000 ∧ Q (tI (trim (zipR (max a.length b.length) fun k => (ati a k + ati b k) % p))) M
def b_added : DTS := (dSeq (dAsg (dCB fMax2 (dCons (dCB fLen (dCons (dVar 1) dNil)) (dCons (dCB fLen (dCons (dVar 2) dNil)) dNil))) (dgName 3)) (dRet (dCall sp_trimmed (dCons (dComp (dIRng1 (dCons (dVar 3) dNil)) (tgN 4) dYes (dOp fMod (dCB fInt (dCons (dOp fAdd (dCall sp_bead_at (dCons (dVar 1) (dCons (dVar 4) dNil))) (dCall sp_bead_at (dCons (dVar 2) (dCons (dVar 4) dNil)))) dNil)) (dVar 0)) [4]) dNil))))
theorem hd_added : ∀ (xs : List D) (M : HM) (Q : DK) (E : XDK), sp_added xs M Q E → xs.length = (["prime", "one", "other"] : List Str).length ∧ b_added (ends Q E) (startD (["prime", "one", "other", "many", "place"] : List Str).length xs) M := by
  rintro xs M Q E ⟨p, a, b, rfl, hp, ha, hb, q⟩
  refine ⟨rfl, ?_⟩
  simp only [b_added, dNext, dSeq, dDrop, dRet, dRetN, dIf, dCall, dCB, dCBK, dCons, dNil, dVar, dC, dOp, dB, dTru, dAndT, dOrT, dNotT, dAndV, dOrV, dNotV, dIfE, dChain, dTup, dLst, dSl, dPart, dNoPart, dgName, dgTup, dgCons, dgNil, dgSub, dAsg, dPar, dAug, dNeg, ends, fLt, fLe, fGt, fGe, fSub, fMod, fDiv, fPow, fAdd, fMul, iAddI, iSubI, ii, fInt, fMax2, fMin2, fLen, fTuple, fList, List.length_cons, List.length_nil, List.map_cons, List.map_nil, startD, List.replicate, List.cons_append, List.nil_append, List.append_nil, Nat.zero_add, Nat.reduceAdd, Nat.reduceSub, List.getElem?_cons_succ, List.getElem?_cons_zero, List.set_cons_zero, List.set_cons_succ, wipeD]
  refine ⟨_, rfl, _, rfl, ?_⟩
  refine comp_rng (n := max ((dI a).length : Int) ((dI b).length : Int)) (g := fun k => .int ((ati a k + ati b k) % p)) (fun Q' q' => q') (by simp; omega) (by simp; omega) (fun i hi Q' q' => ?_) ?_
  · simp only [dNext, dSeq, dDrop, dRet, dRetN, dIf, dCall, dCB, dCBK, dCons, dNil, dVar, dC, dOp, dB, dTru, dAndT, dOrT, dNotT, dAndV, dOrV, dNotV, dIfE, dChain, dTup, dLst, dSl, dPart, dNoPart, dgName, dgTup, dgCons, dgNil, dgSub, dAsg, dPar, dAug, dNeg, ends, fLt, fLe, fGt, fGe, fSub, fMod, fDiv, fPow, fAdd, fMul, iAddI, iSubI, ii, fInt, fMax2, fMin2, fLen, fTuple, fList, List.length_cons, List.length_nil, List.map_cons, List.map_nil, startD, List.replicate, List.cons_append, List.nil_append, List.append_nil, Nat.zero_add, Nat.reduceAdd, Nat.reduceSub, List.getElem?_cons_succ, List.getElem?_cons_zero, List.set_cons_zero, List.set_cons_succ, wipeD]
    refine ⟨a, i, rfl, by omega, b, i, rfl, by omega, hp, q'⟩
  · refine ⟨_, zipR (max a.length b.length) fun k => (ati a k + ati b k) % p, rfl, ?_, .here q⟩
    rw [show (max ((dI a).length : Int) ((dI b).length : Int)).toNat = max a.length b.length by simp; omega, ← dI_zipR]; rfl
def sp_taken : DSp := fun xs M Q _ => ∃ (p : Int) (a b : List Int), xs = [.int p, tI a, tI b] ∧ 0 < p ∧ a.length ≤ 100000 ∧ b.length ≤ 100000 ∧ Q (tI (trim (zipR (max a.length b.length) fun k => (ati a k - ati b k) % p))) M
def b_taken : DTS := (dSeq (dAsg (dCB fMax2 (dCons (dCB fLen (dCons (dVar 1) dNil)) (dCons (dCB fLen (dCons (dVar 2) dNil)) dNil))) (dgName 3)) (dRet (dCall sp_trimmed (dCons (dComp (dIRng1 (dCons (dVar 3) dNil)) (tgN 4) dYes (dOp fMod (dOp fSub (dCall sp_bead_at (dCons (dVar 1) (dCons (dVar 4) dNil))) (dCall sp_bead_at (dCons (dVar 2) (dCons (dVar 4) dNil)))) (dVar 0)) [4]) dNil))))
theorem hd_taken : ∀ (xs : List D) (M : HM) (Q : DK) (E : XDK), sp_taken xs M Q E → xs.length = (["prime", "one", "other"] : List Str).length ∧ b_taken (ends Q E) (startD (["prime", "one", "other", "many", "place"] : List Str).length xs) M := by
  rintro xs M Q E ⟨p, a, b, rfl, hp, ha, hb, q⟩
  refine ⟨rfl, ?_⟩
  simp only [b_taken, dNext, dSeq, dDrop, dRet, dRetN, dIf, dCall, dCB, dCBK, dCons, dNil, dVar, dC, dOp, dB, dTru, dAndT, dOrT, dNotT, dAndV, dOrV, dNotV, dIfE, dChain, dTup, dLst, dSl, dPart, dNoPart, dgName, dgTup, dgCons, dgNil, dgSub, dAsg, dPar, dAug, dNeg, ends, fLt, fLe, fGt, fGe, fSub, fMod, fDiv, fPow, fAdd, fMul, iAddI, iSubI, ii, fInt, fMax2, fMin2, fLen, fTuple, fList, List.length_cons, List.length_nil, List.map_cons, List.map_nil, startD, List.replicate, List.cons_append, List.nil_append, List.append_nil, Nat.zero_add, Nat.reduceAdd, Nat.reduceSub, List.getElem?_cons_succ, List.getElem?_cons_zero, List.set_cons_zero, List.set_cons_succ, wipeD]
  refine ⟨_, rfl, _, rfl, ?_⟩
  refine comp_rng (n := max ((dI a).length : Int) ((dI b).length : Int)) (g := fun k => .int ((ati a k - ati b k) % p)) (fun Q' q' => q') (by simp; omega) (by simp; omega) (fun i hi Q' q' => ?_) ?_
  · simp only [dNext, dSeq, dDrop, dRet, dRetN, dIf, dCall, dCB, dCBK, dCons, dNil, dVar, dC, dOp, dB, dTru, dAndT, dOrT, dNotT, dAndV, dOrV, dNotV, dIfE, dChain, dTup, dLst, dSl, dPart, dNoPart, dgName, dgTup, dgCons, dgNil, dgSub, dAsg, dPar, dAug, dNeg, ends, fLt, fLe, fGt, fGe, fSub, fMod, fDiv, fPow, fAdd, fMul, iAddI, iSubI, ii, fInt, fMax2, fMin2, fLen, fTuple, fList, List.length_cons, List.length_nil, List.map_cons, List.map_nil, startD, List.replicate, List.cons_append, List.nil_append, List.append_nil, Nat.zero_add, Nat.reduceAdd, Nat.reduceSub, List.getElem?_cons_succ, List.getElem?_cons_zero, List.set_cons_zero, List.set_cons_succ, wipeD]
    refine ⟨a, i, rfl, by omega, b, i, rfl, by omega, hp, q'⟩
  · refine ⟨_, zipR (max a.length b.length) fun k => (ati a k - ati b k) % p, rfl, ?_, .here q⟩
    rw [show (max ((dI a).length : Int) ((dI b).length : Int)).toNat = max a.length b.length by simp; omega, ← dI_zipR]; rfl
def sp__law_sum : DSp := fun xs M Q _ => ∃ (p : Int) (a b : List Int) (n : Int), xs = [.int p, tI a, tI b, .int n] ∧ 0 < p ∧ a.length ≤ 100000 ∧ b.length ≤ 100000 ∧ n.natAbs ≤ 1000 ∧ (∀ x ∈ b, x.natAbs ≤ 1000) ∧ Q (tI (trim (zipR (max a.length b.length) fun k => (ati a k + n * ati b k) % p))) M
theorem ati_bd {b : List Int} {C : Nat} (h : ∀ x ∈ b, x.natAbs ≤ C) (k : Nat) : (ati b k).natAbs ≤ C := by
  by_cases hk : k < b.length
  · have e : ati b k = b[k] := by simp [ati, hk]
    rw [e]; exact h _ (List.getElem_mem hk)
  · rw [ati_ge (Nat.le_of_not_lt hk)]; exact Nat.zero_le _
theorem big200 {n : Nat} (h : n ≤ 1000000000) : n ≤ 10 ^ 200 := Nat.le_trans h (by decide +kernel)
def b__law_sum : DTS := (dRet (dCall sp__law_cut (dCons (dComp (dIRng1 (dCons (dCB fMax2 (dCons (dCB fLen (dCons (dVar 1) dNil)) (dCons (dCB fLen (dCons (dVar 2) dNil)) dNil))) dNil)) (tgN 4) dYes (dOp fMod (dOp fAdd (dCall sp__law_at (dCons (dVar 1) (dCons (dVar 4) dNil))) (dOp fMul (dVar 3) (dCall sp__law_at (dCons (dVar 2) (dCons (dVar 4) dNil))))) (dVar 0)) [4]) dNil)))
theorem hd__law_sum : ∀ (xs : List D) (M : HM) (Q : DK) (E : XDK), sp__law_sum xs M Q E → xs.length = (["_law_p", "_law_one", "_law_other", "_law_often"] : List Str).length ∧ b__law_sum (ends Q E) (startD (["_law_p", "_law_one", "_law_other", "_law_often", "_law_k"] : List Str).length xs) M := by
  rintro xs M Q E ⟨p, a, b, n, rfl, hp, ha, hb, hn, hx, q⟩
  refine ⟨rfl, ?_⟩
  simp only [b__law_sum, dNext, dSeq, dDrop, dRet, dRetN, dIf, dCall, dCB, dCBK, dCons, dNil, dVar, dC, dOp, dB, dTru, dAndT, dOrT, dNotT, dAndV, dOrV, dNotV, dIfE, dChain, dTup, dLst, dSl, dPart, dNoPart, dgName, dgTup, dgCons, dgNil, dgSub, dAsg, dPar, dAug, dNeg, ends, fLt, fLe, fGt, fGe, fSub, fMod, fDiv, fPow, fAdd, fMul, iAddI, iSubI, ii, fInt, fMax2, fMin2, fLen, fTuple, fList, List.length_cons, List.length_nil, List.map_cons, List.map_nil, startD, List.replicate, List.cons_append, List.nil_append, List.append_nil, Nat.zero_add, Nat.reduceAdd, Nat.reduceSub, List.getElem?_cons_succ, List.getElem?_cons_zero, List.set_cons_zero, List.set_cons_succ, wipeD]
  refine comp_rng (n := max ((dI a).length : Int) ((dI b).length : Int)) (g := fun k => .int ((ati a k + n * ati b k) % p)) (fun Q' q' => ⟨_, rfl, _, rfl, q'⟩) (by simp; omega) (by simp; omega) (fun i hi Q' q' => ?_) ?_
  · simp only [dNext, dSeq, dDrop, dRet, dRetN, dIf, dCall, dCB, dCBK, dCons, dNil, dVar, dC, dOp, dB, dTru, dAndT, dOrT, dNotT, dAndV, dOrV, dNotV, dIfE, dChain, dTup, dLst, dSl, dPart, dNoPart, dgName, dgTup, dgCons, dgNil, dgSub, dAsg, dPar, dAug, dNeg, ends, fLt, fLe, fGt, fGe, fSub, fMod, fDiv, fPow, fAdd, fMul, iAddI, iSubI, ii, fInt, fMax2, fMin2, fLen, fTuple, fList, List.length_cons, List.length_nil, List.map_cons, List.map_nil, startD, List.replicate, List.cons_append, List.nil_append, List.append_nil, Nat.zero_add, Nat.reduceAdd, Nat.reduceSub, List.getElem?_cons_succ, List.getElem?_cons_zero, List.set_cons_zero, List.set_cons_succ, wipeD]
    refine ⟨a, i, rfl, by omega, b, i, rfl, by omega, ⟨big200 (by omega), big200 ?_⟩, hp, q'⟩
    have := ati_bd hx (i : Int).toNat
    omega
  · refine ⟨_, zipR (max a.length b.length) fun k => (ati a k + n * ati b k) % p, rfl, .inr ?_, by simp [zipR]; omega, .here q⟩
    rw [show (max ((dI a).length : Int) ((dI b).length : Int)).toNat = max a.length b.length by simp; omega, ← dI_zipR]
/-! ### sums -/
def sm (f : Nat → Int) : Nat → Int
  | 0 => 0
  | n + 1 => sm f n + f n
theorem sm_congr {f g : Nat → Int} : ∀ {n : Nat}, (∀ i, i < n → f i = g i) → sm f n = sm g n
  | 0, _ => rfl
  | n + 1, h => by
    show sm f n + f n = sm g n + g n
    rw [sm_congr fun i hi => h i (Nat.lt_succ_of_lt hi), h n (Nat.lt_succ_self n)]
theorem sm_zero {f : Nat → Int} {n : Nat} (h : ∀ i, i < n → f i = 0) : sm f n = 0 := by
  induction n with
  | zero => rfl
  | succ n ih =>
    show sm f n + f n = 0
    rw [ih fun i hi => h i (Nat.lt_succ_of_lt hi), h n (Nat.lt_succ_self n)]; rfl
theorem sm_more {f : Nat → Int} {n : Nat} : ∀ {m : Nat}, n ≤ m → (∀ i, n ≤ i → i < m → f i = 0) → sm f m = sm f n
  | 0, h, _ => by rw [Nat.le_zero.mp h]
  | m + 1, h, hz => by
    by_cases e : n = m + 1
    · rw [e]
    · show sm f m + f m = _
      rw [sm_more (by omega) fun i h1 h2 => hz i h1 (by omega), hz m (by omega) (by omega), Int.add_zero]
theorem sm_shift (f : Nat → Int) : ∀ n, sm f (n + 1) = f 0 + sm (fun i => f (i + 1)) n
  | 0 => by show 0 + f 0 = f 0 + 0; omega
  | n + 1 => by
    show sm f (n + 1) + f (n + 1) = f 0 + (sm (fun i => f (i + 1)) n + f (n + 1))
    rw [sm_shift f n]; omega
theorem sm_refl (f : Nat → Int) : ∀ n, sm f n = sm (fun i => f (n - 1 - i)) n
  | 0 => rfl
  | n + 1 => by
    rw [sm_shift (fun i => f (n + 1 - 1 - i)) n]
    show sm f n + f n = f (n - 0) + sm (fun i => f (n - (i + 1))) n
    rw [sm_refl f n, Int.add_comm, Nat.sub_zero]
    congr 1
    exact sm_congr fun i hi => by congr 1; omega
theorem sm_mod {f g : Nat → Int} {p : Int} : ∀ {n : Nat}, (∀ i, i < n → f i % p = g i % p) → sm f n % p = sm g n % p
  | 0, _ => rfl
  | n + 1, h => by
    show (sm f n + f n) % p = (sm g n + g n) % p
    rw [Int.add_emod, sm_mod fun i hi => h i (Nat.lt_succ_of_lt hi), h n (Nat.lt_succ_self n), ← Int.add_emod]
/-- b moved by i -/
def sh (b : List Int) (n i : Nat) : Int := if i ≤ n then ati b (n - i) else 0
/-- the n-th bead of the product, nothing carried -/
def cv (a b : List Int) (n : Nat) : Int := sm (fun i => ati a i * sh b n i) a.length
theorem cv_eq (a b : List Int) (n : Nat) : cv a b n = sm (fun i => ati a i * ati b (n - i)) (n + 1) := by
  unfold cv
  by_cases h : a.length ≤ n + 1
  · rw [← sm_more (f := fun i => ati a i * sh b n i) h fun i h1 _ => by rw [ati_ge h1, Int.zero_mul]]
    exact sm_congr fun i hi => by unfold sh; rw [if_pos (by omega)]
  · rw [sm_more (f := fun i => ati a i * sh b n i) (show n + 1 ≤ a.length by omega) fun i h1 _ => by unfold sh; rw [if_neg (by omega), Int.mul_zero]]
    exact sm_congr fun i hi => by unfold sh; rw [if_pos (by omega)]
theorem cv_comm (a b : List Int) (n : Nat) : cv a b n = cv b a n := by
  rw [cv_eq, cv_eq, sm_refl]
  exact sm_congr fun i hi => by
    rw [Int.mul_comm]
    congr 2 <;> omega
theorem cv_ge (a b : List Int) (n : Nat) (h : a.length + b.length ≤ n + 1) : cv a b n = 0 := by
  unfold cv
  refine sm_zero fun i hi => ?_
  unfold sh
  rw [if_pos (by omega), ati_ge (show b.length ≤ n - i by omega), Int.mul_zero]
def prodR (p : Int) (a b : List Int) : List Int := trim (zipR (a.length + b.length - 1) fun n => cv a b n % p)
theorem ati_prodR (p : Int) (a b : List Int) (n : Nat) : ati (prodR p a b) n = cv a b n % p := by
  unfold prodR
  rw [ati_trim, ati_zipR]
  by_cases h : n < a.length + b.length - 1
  · rw [if_pos h]
  · rw [if_neg h, cv_ge _ _ _ (by omega), Int.zero_emod]
def sp_product : DSp := fun xs M Q _ => ∃ (p : Int) (a b : List Int), xs = [.int p, tI a, tI b] ∧ 0 < p ∧ a.length ≤ 1000 ∧ b.length ≤ 1000 ∧ (∀ x ∈ a, x.natAbs ≤ 1000) ∧ (∀ x ∈ b, x.natAbs ≤ 1000) ∧ Q (tI (prodR p a b)) M
def b_product : DTS := (dSeq (dIf (dOrT (dB (dOp fEq (dVar 1) (dTup dNil))) (dB (dOp fEq (dVar 2) (dTup dNil)))) (dRet (dTup dNil)) dNext) (dSeq (dAsg (dOp fMulM (dLst (dCons (dC (.int 0)) dNil)) (dOp fSub (dOp fAdd (dCB fLen (dCons (dVar 1) dNil)) (dCB fLen (dCons (dVar 2) dNil))) (dC (.int 1)))) (dgName 3)) (dSeq (dFor (dIEnum (dCons (dVar 1) dNil)) (dgTup 2 (dgCons (dgName 4) (dgCons (dgName 5) dgNil))) (dIf (dB (dOp fNe (dVar 5) (dC (.int 0)))) (dFor (dIEnum (dCons (dVar 2) dNil)) (dgTup 2 (dgCons (dgName 6) (dgCons (dgName 7) dgNil))) (dAugS (dVar 3) (dOp fAdd (dVar 4) (dVar 6)) (dOp fMul (dVar 5) (dVar 7)) iAddI)) dNext)) (dRet (dCall sp_trimmed (dCons (dComp (dISeq (dFrz (dVar 3))) (tgN 5) dYes (dOp fMod (dCB fInt (dCons (dVar 5) dNil)) (dVar 0)) [5]) dNil))))))
theorem en_at {ds : List D} {i : Nat} {x : D} (h : (enD ds)[i]? = some x) : ∃ d, ds[i]? = some d ∧ x = .tup [.int (i : Nat), d] := by
  have hl := (List.getElem?_eq_some_iff.mp h).1
  rw [enD_length] at hl
  have e := enD_get (List.getElem?_eq_getElem hl)
  rw [e] at h
  exact ⟨_, List.getElem?_eq_getElem hl, (Option.some.inj h).symm⟩
theorem enI_at {ns : List Int} {i : Nat} {x : D} (h : (enD (dI ns))[i]? = some x) : i < ns.length ∧ x = .tup [.int (i : Nat), .int (ati ns i)] := by
  obtain ⟨d, h1, rfl⟩ := en_at h
  have hl : i < ns.length := by
    have := (List.getElem?_eq_some_iff.mp h1).1
    simpa using this
  rw [dI_at hl] at h1
  cases h1
  exact ⟨hl, rfl⟩
theorem zipR_set {n k : Nat} {f : Nat → Int} {v : Int} : (zipR n f).set k v = zipR n fun i => if i = k then v else f i := by
  apply List.ext_getElem (by simp [zipR])
  intro i h1 h2
  simp only [zipR, List.getElem_set, List.getElem_map, List.getElem_range]
  by_cases h : k = i
  · rw [if_pos h, if_pos h.symm]
  · rw [if_neg h, if_neg fun z => h z.symm]
theorem mdel_mup {M : HM} {f : Addr} {o : MO} (h : M f = none) : mdel (mup M f o) f = M := by
  funext b
  by_cases hb : b = f
  · subst hb; rw [mdel_same, h]
  · rw [mdel_ne hb, mup_ne hb]
theorem hd_product : ∀ (xs : List D) (M : HM) (Q : DK) (E : XDK), sp_product xs M Q E → xs.length = (["prime", "one", "other"] : List Str).length ∧ b_product (ends Q E) (startD (["prime", "one", "other", "found", "place", "bead", "further", "another"] : List Str).length xs) M := by
  rintro xs M Q E ⟨p, a, b, rfl, hp, ha, hb, hxa, hxb, q⟩
  refine ⟨rfl, ?_⟩
  simp only [b_product, dNext, dSeq, dDrop, dRet, dRetN, dIf, dCall, dCB, dCBK, dCons, dNil, dVar, dC, dOp, dB, dTru, dAndT, dOrT, dNotT, dAndV, dOrV, dNotV, dIfE, dChain, dTup, dLst, dSl, dPart, dNoPart, dgName, dgTup, dgCons, dgNil, dgSub, dAsg, dPar, dAug, dNeg, ends, fLt, fLe, fGt, fGe, fSub, fMod, fDiv, fPow, fAdd, fMul, iAddI, iSubI, ii, fInt, fMax2, fMin2, fLen, fTuple, fList, List.length_cons, List.length_nil, List.map_cons, List.map_nil, startD, List.replicate, List.cons_append, List.nil_append, List.append_nil, Nat.zero_add, Nat.reduceAdd, Nat.reduceSub, List.getElem?_cons_succ, List.getElem?_cons_zero, List.set_cons_zero, List.set_cons_succ, wipeD]
  refine ⟨by decide, eq_tI (b := []) ?_⟩
  have triv : a = [] ∨ b = [] → prodR p a b = [] := fun h => by
    unfold prodR
    refine trim_zero fun k => ?_
    rw [ati_zipR]
    have z : cv a b k = 0 := by
      rcases h with h | h
      · subst h; rfl
      · subst h
        unfold cv sh
        exact sm_zero fun i _ => by split <;> simp [ati_nil]
    split
    · rw [z, Int.zero_emod]
    · rfl
  have zero : (a = [] ∨ b = []) → RetK Q (.tup []) M := fun h => by
    rw [triv h] at q
    exact .here q
  dsimp only
  refine ⟨fun h => ⟨fun _ => ⟨by decide, zero (.inl (by simpa using h))⟩, fun z => (nomatch z)⟩, fun h => ⟨by decide, eq_tI (b := []) ⟨fun h2 => ⟨by decide, zero (.inr (by simpa using h2))⟩, fun h2 => ?_⟩⟩⟩
  have hna : a ≠ [] := by simpa using h
  have hnb : b ≠ [] := by simpa using h2
  have la := List.length_pos_iff.mpr hna
  have lb := List.length_pos_iff.mpr hnb
  refine ⟨by decide, _, rfl, _, rfl, ?_⟩
  have hN : (((dI a).length : Int) + ((dI b).length : Int) - 1).toNat = a.length + b.length - 1 := by simp; omega
  show (_ ∧ _ ∧ _) ∧ _
  refine ⟨⟨by simp; omega, by simp; omega, by rw [hN]; simp; omega⟩, fun f hf => ?_⟩
  have e0 : repD (((dI a).length : Int) + ((dI b).length : Int) - 1) [D.int 0] = dI (zipR (a.length + b.length - 1) fun n => sm (fun i => ati a i * sh b n i) 0) := by
    unfold repD
    rw [hN, dI_zipR]
    apply List.ext_getElem? 
    intro i
    have e : (List.replicate (a.length + b.length - 1) [D.int 0]).flatten = List.replicate (a.length + b.length - 1) (D.int 0) := by
      generalize a.length + b.length - 1 = n
      induction n with
      | zero => rfl
      | succ n ih => rw [List.replicate_succ, List.flatten_cons, ih]; rfl
    rw [e]
    by_cases hi : i < a.length + b.length - 1 <;> simp [hi, sm]
  rw [e0]
  simp only [dFor, dIEnum, dNext, dSeq, dDrop, dRet, dRetN, dIf, dCall, dCB, dCBK, dCons, dNil, dVar, dC, dOp, dB, dTru, dAndT, dOrT, dNotT, dAndV, dOrV, dNotV, dIfE, dChain, dTup, dLst, dSl, dPart, dNoPart, dgName, dgTup, dgCons, dgNil, dgSub, dAsg, dPar, dAug, dNeg, ends, fLt, fLe, fGt, fGe, fSub, fMod, fDiv, fPow, fAdd, fMul, iAddI, iSubI, ii, fInt, fMax2, fMin2, fLen, fTuple, fList, List.length_cons, List.length_nil, List.map_cons, List.map_nil, startD, List.replicate, List.cons_append, List.nil_append, List.append_nil, Nat.zero_add, Nat.reduceAdd, Nat.reduceSub, List.getElem?_cons_succ, List.getElem?_cons_zero, List.set_cons_zero, List.set_cons_succ, wipeD]
  refine ⟨_, rfl, ?_⟩
  refine forL_inv (fun i σ M' => ∃ o4 o5 o6 o7, σ = [some (.int p), some (tI a), some (tI b), some (.ref f), o4, o5, o6, o7] ∧ M' = mup M f (.lst (dI (zipR (a.length + b.length - 1) fun n => sm (fun i => ati a i * sh b n i) i)))) _ 0 ?_ ?_ ⟨_, _, _, _, rfl, rfl⟩
  · rintro i x σ M' hx ⟨o4, o5, o6, o7, rfl, rfl⟩ D' er ex eb hnx hct
    obtain ⟨hi, rfl⟩ := enI_at hx
    rw [Nat.zero_add] at hnx ⊢
    simp only [dNext, dSeq, dDrop, dRet, dRetN, dIf, dCall, dCB, dCBK, dCons, dNil, dVar, dC, dOp, dB, dTru, dAndT, dOrT, dNotT, dAndV, dOrV, dNotV, dIfE, dChain, dTup, dLst, dSl, dPart, dNoPart, dgName, dgTup, dgCons, dgNil, dgSub, dAsg, dPar, dAug, dNeg, ends, fLt, fLe, fGt, fGe, fSub, fMod, fDiv, fPow, fAdd, fMul, iAddI, iSubI, ii, fInt, fMax2, fMin2, fLen, fTuple, fList, List.length_cons, List.length_nil, List.map_cons, List.map_nil, startD, List.replicate, List.cons_append, List.nil_append, List.append_nil, Nat.zero_add, Nat.reduceAdd, Nat.reduceSub, List.getElem?_cons_succ, List.getElem?_cons_zero, List.set_cons_zero, List.set_cons_succ, wipeD]
    refine ⟨_, rfl, rfl, rfl, ne_int ?_⟩
    dsimp only
    refine ⟨fun hz => ?_, fun hz => ?_⟩
    · refine ⟨_, rfl, ?_⟩
      refine forL_inv (fun j σ M' => ∃ o6 o7, σ = [some (.int p), some (tI a), some (tI b), some (.ref f), some (.int (i : Int)), some (.int (ati a i)), o6, o7] ∧ M' = mup M f (.lst (dI (zipR (a.length + b.length - 1) fun n => sm (fun i => ati a i * sh b n i) i + if i ≤ n ∧ n - i < j then ati a i * ati b (n - i) else 0)))) _ 0 ?_ ?_ ⟨o6, o7, rfl, ?_⟩
      · rintro j x σ M' hx ⟨o6, o7, rfl, rfl⟩ D2 er2 ex2 eb2 hnx2 hct2
        obtain ⟨hj, rfl⟩ := enI_at hx
        rw [Nat.zero_add] at hnx2 ⊢
        simp only [dNext, dSeq, dDrop, dRet, dRetN, dIf, dCall, dCB, dCBK, dCons, dNil, dVar, dC, dOp, dB, dTru, dAndT, dOrT, dNotT, dAndV, dOrV, dNotV, dIfE, dChain, dTup, dLst, dSl, dPart, dNoPart, dgName, dgTup, dgCons, dgNil, dgSub, dAsg, dPar, dAug, dNeg, ends, fLt, fLe, fGt, fGe, fSub, fMod, fDiv, fPow, fAdd, fMul, iAddI, iSubI, ii, fInt, fMax2, fMin2, fLen, fTuple, fList, List.length_cons, List.length_nil, List.map_cons, List.map_nil, startD, List.replicate, List.cons_append, List.nil_append, List.append_nil, Nat.zero_add, Nat.reduceAdd, Nat.reduceSub, List.getElem?_cons_succ, List.getElem?_cons_zero, List.set_cons_zero, List.set_cons_succ, wipeD, dAugS]
        refine ⟨_, rfl, rfl, rfl, ?_⟩
        have bnd : i + j < a.length + b.length - 1 := by omega
        unfold fGet
        dsimp only
        rw [mup_same]
        refine ⟨_, .int (sm (fun i' => ati a i' * sh b (i + j) i') i), rfl, by omega, by omega, ?_, ?_⟩
        · rw [show ((i : Int) + (j : Int)).toNat = i + j by omega, dI_at (by simpa [zipR] using bnd), ati_zipR, if_pos bnd]
          rw [if_neg (show ¬ (i ≤ i + j ∧ i + j - i < j) by omega), Int.add_zero]
        · refine ⟨⟨big200 ?_, big200 ?_⟩, ?_⟩
          · have := ati_bd hxa i; omega
          · have := ati_bd hxb j; omega
          · unfold fSet
            dsimp only
            rw [mup_same]
            refine ⟨_, i + j, rfl, ?_, hnx2 _ _ ⟨_, _, rfl, ?_⟩⟩
            · rw [ixN_lt (by omega) (by simp [zipR]; omega)]
              congr 1
            · rw [mup_mup]
              congr 2
              have : (dI (zipR (a.length + b.length - 1) fun n => sm (fun i => ati a i * sh b n i) i + if i ≤ n ∧ n - i < j then ati a i * ati b (n - i) else 0)).set (i + j) (D.int (sm (fun i' => ati a i' * sh b (i + j) i') i + ati a i * ati b j)) = dI ((zipR (a.length + b.length - 1) fun n => sm (fun i => ati a i * sh b n i) i + if i ≤ n ∧ n - i < j then ati a i * ati b (n - i) else 0).set (i + j) (sm (fun i' => ati a i' * sh b (i + j) i') i + ati a i * ati b j)) := by
                simp [dI, List.map_set]
              rw [this, zipR_set]
              congr 1
              unfold zipR
              refine List.map_congr_left fun n _ => ?_
              by_cases hn : n = i + j
              · subst hn
                rw [if_pos rfl, if_pos (show i ≤ i + j ∧ i + j - i < j + 1 by omega), show i + j - i = j by omega]
              · rw [if_neg hn]
                by_cases h3 : i ≤ n ∧ n - i < j
                · rw [if_pos h3, if_pos (show i ≤ n ∧ n - i < j + 1 by omega)]
                · rw [if_neg h3, if_neg (show ¬ (i ≤ n ∧ n - i < j + 1) by omega)]
      · rintro σ M' ⟨o6, o7, rfl, rfl⟩
        refine hnx _ _ ⟨_, _, _, _, rfl, ?_⟩
        congr 3
        unfold zipR
        refine List.map_congr_left fun n _ => ?_
        show _ = sm _ i + ati a i * sh b n i
        congr 1
        unfold sh
        rw [enD_length]
        by_cases h3 : i ≤ n
        · rw [if_pos h3]
          by_cases h4 : n - i < b.length
          · rw [if_pos ⟨h3, by simpa using h4⟩]
          · rw [if_neg (by simp; omega), ati_ge (show b.length ≤ n - i by omega), Int.mul_zero]
        · rw [if_neg h3, if_neg (fun z => h3 z.1), Int.mul_zero]
      · congr 3
        unfold zipR
        refine List.map_congr_left fun n _ => ?_
        rw [if_neg (by omega), Int.add_zero]
    · refine hnx _ _ ⟨_, _, _, _, rfl, ?_⟩
      have hz0 : ati a i = 0 := by simpa using hz
      congr 3
      unfold zipR
      refine List.map_congr_left fun n _ => ?_
      show _ = sm _ i + ati a i * sh b n i
      rw [hz0, Int.zero_mul, Int.add_zero]
  · rintro σ M' ⟨o4, o5, o6, o7, rfl, rfl⟩
    rw [Nat.zero_add, enD_length, List.length_map]
    simp only [dNext, dSeq, dDrop, dRet, dRetN, dIf, dCall, dCB, dCBK, dCons, dNil, dVar, dC, dOp, dB, dTru, dAndT, dOrT, dNotT, dAndV, dOrV, dNotV, dIfE, dChain, dTup, dLst, dSl, dPart, dNoPart, dgName, dgTup, dgCons, dgNil, dgSub, dAsg, dPar, dAug, dNeg, ends, fLt, fLe, fGt, fGe, fSub, fMod, fDiv, fPow, fAdd, fMul, iAddI, iSubI, ii, fInt, fMax2, fMin2, fLen, fTuple, fList, List.length_cons, List.length_nil, List.map_cons, List.map_nil, startD, List.replicate, List.cons_append, List.nil_append, List.append_nil, Nat.zero_add, Nat.reduceAdd, Nat.reduceSub, List.getElem?_cons_succ, List.getElem?_cons_zero, List.set_cons_zero, List.set_cons_succ, wipeD]
    refine comp_ints (x := lI (zipR (a.length + b.length - 1) fun n => cv a b n)) (M1 := M) (g := fun i => .int (i % p)) rfl (fun Q' q' => ?_) (by simp [zipR]; omega) (fun i hi Q' q' => ?_) ?_
    · simp only [dFrz, dNext, dSeq, dDrop, dRet, dRetN, dIf, dCall, dCB, dCBK, dCons, dNil, dVar, dC, dOp, dB, dTru, dAndT, dOrT, dNotT, dAndV, dOrV, dNotV, dIfE, dChain, dTup, dLst, dSl, dPart, dNoPart, dgName, dgTup, dgCons, dgNil, dgSub, dAsg, dPar, dAug, dNeg, ends, fLt, fLe, fGt, fGe, fSub, fMod, fDiv, fPow, fAdd, fMul, iAddI, iSubI, ii, fInt, fMax2, fMin2, fLen, fTuple, fList, List.length_cons, List.length_nil, List.map_cons, List.map_nil, startD, List.replicate, List.cons_append, List.nil_append, List.append_nil, Nat.zero_add, Nat.reduceAdd, Nat.reduceSub, List.getElem?_cons_succ, List.getElem?_cons_zero, List.set_cons_zero, List.set_cons_succ, wipeD]
      refine ⟨f, _, rfl, mup_same, ?_⟩
      have e : mdel (mup M f (MO.lst (dI (zipR (a.length + b.length - 1) fun n => sm (fun i => ati a i * sh b n i) a.length)))) f = M := mdel_mup hf
      rw [e]
      exact q'
    · simp only [dNext, dSeq, dDrop, dRet, dRetN, dIf, dCall, dCB, dCBK, dCons, dNil, dVar, dC, dOp, dB, dTru, dAndT, dOrT, dNotT, dAndV, dOrV, dNotV, dIfE, dChain, dTup, dLst, dSl, dPart, dNoPart, dgName, dgTup, dgCons, dgNil, dgSub, dAsg, dPar, dAug, dNeg, ends, fLt, fLe, fGt, fGe, fSub, fMod, fDiv, fPow, fAdd, fMul, iAddI, iSubI, ii, fInt, fMax2, fMin2, fLen, fTuple, fList, List.length_cons, List.length_nil, List.map_cons, List.map_nil, startD, List.replicate, List.cons_append, List.nil_append, List.append_nil, Nat.zero_add, Nat.reduceAdd, Nat.reduceSub, List.getElem?_cons_succ, List.getElem?_cons_zero, List.set_cons_zero, List.set_cons_succ, wipeD]
      exact ⟨hp, q'⟩
    · refine ⟨_, zipR (a.length + b.length - 1) fun n => cv a b n % p, rfl, ?_, .here q⟩
      simp [zipR, dI, seqOf, lstOf, Function.comp_def]
def sp__law_times : DSp := fun xs M Q _ => ∃ (p : Int) (a b : List Int), xs = [.int p, tI a, tI b] ∧ 0 < p ∧ a.length ≤ 1000 ∧ b.length ≤ 1000 ∧ (∀ x ∈ a, x.natAbs ≤ 1000) ∧ (∀ x ∈ b, x.natAbs ≤ 1000) ∧ Q (tI (prodR p a b)) M
theorem rep_zero (k : Nat) : repD (k : Int) [D.int 0] = dI (List.replicate k 0) := by
  unfold repD
  rw [Int.toNat_natCast]
  induction k with
  | zero => rfl
  | succ n ih => rw [List.replicate_succ, List.flatten_cons, ih, List.replicate_succ]; rfl
theorem ati_sh (a : List Int) (k n : Nat) : ati (List.replicate k 0 ++ a) n = sh a n k := by
  rw [ati_app, List.length_replicate]
  unfold sh
  by_cases h : k ≤ n
  · rw [if_neg (by omega), if_pos h]
  · rw [if_pos (by omega), if_neg h, ati_zeros]
theorem sum_at {p : Int} {a b : List Int} {c : Int} (k : Nat) : ati (trim (zipR (max a.length b.length) fun n => (ati a n + c * ati b n) % p)) k = (ati a k + c * ati b k) % p := by
  rw [ati_trim, ati_zipR]
  by_cases h : k < max a.length b.length
  · rw [if_pos h]
  · rw [if_neg h, ati_ge (show a.length ≤ k by omega), ati_ge (show b.length ≤ k by omega), Int.mul_zero]; rfl
/-- beads round the prime -/
def In (p : Int) (ns : List Int) : Prop := ∀ x ∈ ns, 0 ≤ x ∧ x < p
theorem In.at {p : Int} {ns : List Int} (h : In p ns) (hp : 0 < p) (k : Nat) : 0 ≤ ati ns k ∧ ati ns k < p := by
  by_cases hk : k < ns.length
  · have e : ati ns k = ns[k] := by simp [ati, hk]
    rw [e]; exact h _ (List.getElem_mem hk)
  · rw [ati_ge (Nat.le_of_not_lt hk)]; exact ⟨Int.le_refl _, hp⟩
theorem In.bd {p : Int} {ns : List Int} (h : In p ns) (hp : p ≤ 1000) : ∀ x ∈ ns, x.natAbs ≤ 1000 := fun x hx => by have := h x hx; omega
theorem In.trim {p : Int} {ns : List Int} (h : In p ns) : In p (trim ns) := fun x hx => h x (trim_mem hx)
theorem In.zip {p : Int} {n : Nat} {f : Nat → Int} (hp : 0 < p) : In p (zipR n fun k => f k % p) := fun x hx => by
  obtain ⟨i, _, rfl⟩ := List.mem_map.mp hx
  exact ⟨Int.emod_nonneg _ (by omega), Int.emod_lt_of_pos _ hp⟩
theorem In.drop {p : Int} {ns : List Int} (h : In p ns) (k : Nat) : In p (ns.drop k) := fun x hx => h x (List.mem_of_mem_drop hx)
theorem prodR_comm (p : Int) (a b : List Int) : prodR p a b = prodR p b a := Tr.ext (trim_trim _) (trim_trim _) fun k => by rw [ati_prodR, ati_prodR, cv_comm]
theorem neg_mod {p x y : Int} : (x + (p - 1) * y) % p = (x - y) % p := by
  have e : x + (p - 1) * y = (x - y) + p * y := by rw [Int.sub_mul, Int.one_mul]; omega
  rw [e, Int.add_mul_emod_self_left]
theorem rng_at {lo : Int} {n i : Nat} {x : D} (h : (rgD lo n)[i]? = some x) : i < n ∧ x = .int (lo + (i : Int)) := by
  have hi : i < n := by
    have := (List.getElem?_eq_some_iff.mp h).1
    rwa [rgD_length] at this
  refine ⟨hi, ?_⟩
  simp [rgD, hi] at h
  exact h.symm
end DL

set_option Elab.async false
set_option linter.all false
set_option maxRecDepth 100000
set_option maxHeartbeats 400000
namespace DL
open PySem PySem.Spec PyProof.Rows L2
open PySem.W (Frag)
variable [TB]
/-- the primes -/
def Pr (p : Int) : Prop := p = 2 ∨ p = 3 ∨ p = 5
theorem Pr.pos {p : Int} (h : Pr p) : 0 < p := by rcases h with h | h | h <;> omega
theorem Pr.le {p : Int} (h : Pr p) : p ≤ 5 := by rcases h with h | h | h <;> omega
theorem inv_tab : ∀ p : Nat, (p = 2 ∨ p = 3 ∨ p = 5) → ∀ c : Nat, 0 < c → c < p → ∃ i : Nat, i < p ∧ c * i % p = 1 := by
  intro p hp
  rcases hp with h | h | h <;> subst h <;> intro c h0 h1
  · have : c = 1 := by omega
    subst this; exact ⟨1, by decide, by decide⟩
  · have : c = 1 ∨ c = 2 := by omega
    rcases this with h | h <;> subst h
    · exact ⟨1, by decide, by decide⟩
    · exact ⟨2, by decide, by decide⟩
  · have : c = 1 ∨ c = 2 ∨ c = 3 ∨ c = 4 := by omega
    rcases this with h | h | h | h <;> subst h
    · exact ⟨1, by decide, by decide⟩
    · exact ⟨3, by decide, by decide⟩
    · exact ⟨2, by decide, by decide⟩
    · exact ⟨4, by decide, by decide⟩
theorem inv_ex {p c : Int} (hp : Pr p) (h0 : 0 < c) (h1 : c < p) : ∃ i : Nat, (i : Int) < p ∧ c * (i : Int) % p = 1 := by
  obtain ⟨q, rfl⟩ : ∃ q : Nat, p = (q : Int) := ⟨p.toNat, by have := hp.pos; omega⟩
  obtain ⟨d, rfl⟩ : ∃ d : Nat, c = (d : Int) := ⟨c.toNat, by omega⟩
  obtain ⟨i, hi, e⟩ := inv_tab q (by rcases hp with h | h | h <;> omega) d (by omega) (by omega)
  exact ⟨i, by omega, by rw [← Int.natCast_mul, ← Int.natCast_emod, e]; rfl⟩
def sp_undoing : DSp := fun xs M Q _ => ∃ p c : Int, xs = [.int p, .int c] ∧ Pr p ∧ 0 < c ∧ c < p ∧ ∀ i : Int, 0 ≤ i → i < p → c * i % p = 1 → Q (.int i) M
def b_undoing : DTS := (dRet (dOp fIx (dComp (dIRng1 (dCons (dVar 0) dNil)) (tgN 2) (dB (dOp fEq (dOp fMod (dCB fInt (dCons (dOp fMul (dVar 1) (dVar 2)) dNil)) (dVar 0)) (dC (.int 1)))) (dVar 2) [2]) (dC (.int 0))))
theorem hd_undoing : ∀ (xs : List D) (M : HM) (Q : DK) (E : XDK), sp_undoing xs M Q E → xs.length = (["prime", "colour"] : List Str).length ∧ b_undoing (ends Q E) (startD (["prime", "colour", "other"] : List Str).length xs) M := by
  rintro xs M Q E ⟨p, c, rfl, hp, h0, h1, q⟩
  refine ⟨rfl, ?_⟩
  have hp0 := hp.pos
  have hp5 := hp.le
  simp only [b_undoing, dNext, dSeq, dDrop, dRet, dRetN, dIf, dCall, dCB, dCBK, dCons, dNil, dVar, dC, dOp, dB, dTru, dAndT, dOrT, dNotT, dAndV, dOrV, dNotV, dIfE, dChain, dTup, dLst, dSl, dPart, dNoPart, dgName, dgTup, dgCons, dgNil, dgSub, dAsg, dPar, dAug, dNeg, ends, fLt, fLe, fGt, fGe, fSub, fMod, fDiv, fPow, fAdd, fMul, iAddI, iSubI, ii, fInt, fMax2, fMin2, fLen, fTuple, fList, List.length_cons, List.length_nil, List.map_cons, List.map_nil, startD, List.replicate, List.cons_append, List.nil_append, List.append_nil, Nat.zero_add, Nat.reduceAdd, Nat.reduceSub, List.getElem?_cons_succ, List.getElem?_cons_zero, List.set_cons_zero, List.set_cons_succ, wipeD]
  refine comp_rng_if (n := p) (g := fun i => .int (i : Int)) (p := fun i => decide (c * (i : Int) % p = 1)) (fun Q' q' => q') (by omega) (by omega) (fun i hi => ⟨fun Q' q' => ?_, fun _ Q' q' => q'⟩) ?_
  · simp only [dNext, dSeq, dDrop, dRet, dRetN, dIf, dCall, dCB, dCBK, dCons, dNil, dVar, dC, dOp, dB, dTru, dAndT, dOrT, dNotT, dAndV, dOrV, dNotV, dIfE, dChain, dTup, dLst, dSl, dPart, dNoPart, dgName, dgTup, dgCons, dgNil, dgSub, dAsg, dPar, dAug, dNeg, ends, fLt, fLe, fGt, fGe, fSub, fMod, fDiv, fPow, fAdd, fMul, iAddI, iSubI, ii, fInt, fMax2, fMin2, fLen, fTuple, fList, List.length_cons, List.length_nil, List.map_cons, List.map_nil, startD, List.replicate, List.cons_append, List.nil_append, List.append_nil, Nat.zero_add, Nat.reduceAdd, Nat.reduceSub, List.getElem?_cons_succ, List.getElem?_cons_zero, List.set_cons_zero, List.set_cons_succ, wipeD]
    exact ⟨⟨big200 (by omega), big200 (by omega)⟩, hp0, eq_int q'⟩
  · obtain ⟨i, hi, e⟩ := inv_ex hp h0 h1
    have hm : i ∈ (List.range p.toNat).filter fun i : Nat => decide (c * (i : Int) % p = 1) := List.mem_filter.mpr ⟨List.mem_range.mpr (by omega), decide_eq_true e⟩
    cases hl : (List.range p.toNat).filter fun i : Nat => decide (c * (i : Int) % p = 1) with
    | nil => rw [hl] at hm; cases hm
    | cons j r =>
      have hj : j ∈ (List.range p.toNat).filter fun i : Nat => decide (c * (i : Int) % p = 1) := by rw [hl]; exact List.mem_cons_self
      obtain ⟨h2, h3⟩ := List.mem_filter.mp hj
      have h2' := List.mem_range.mp h2
      refine ⟨.int (j : Int), ?_, .here (q j (by omega) (by omega) (of_decide_eq_true h3))⟩
      rw [ix_lst, atI_lt (by decide) (by simp)]; rfl
/-- times, rest of a parting -/
structure Div (p : Int) (a b t r : List Int) : Prop where
  it : In p t
  ir : In p r
  tt : Tr t
  tr : Tr r
  lt : r.length < b.length
  le : t.length ≤ a.length
  eq : ∀ n, (cv b t n + ati r n) % p = ati a n % p
theorem ati_set {R : List Int} {k n : Nat} {v : Int} (h : k < R.length) : ati (R.set k v) n = if n = k then v else ati R n := by
  unfold ati
  by_cases e : n = k
  · subst e; simp [h]
  · rw [if_neg e, List.getD_eq_getElem?_getD, List.getElem?_set_ne (fun z => e z.symm)]; simp
theorem dI_set {ns : List Int} {k : Nat} {v : Int} : (dI ns).set k (.int v) = dI (ns.set k v) := by simp [dI, List.map_set]
theorem In.set {p : Int} {ns : List Int} (h : In p ns) {k : Nat} {v : Int} (hv : 0 ≤ v ∧ v < p) : In p (ns.set k v) := fun x hx => by
  rcases List.mem_or_eq_of_mem_set hx with h1 | h1
  · exact h x h1
  · rw [h1]; exact hv
/-- one more bead in the times: the product moves by b times it -/
theorem cv_set {b O : List Int} {k n : Nat} {v : Int} (hk : k < O.length) (h0 : ati O k = 0) : cv b (O.set k v) n = cv b O n + (if k ≤ n ∧ n - k < b.length then ati b (n - k) * v else 0) := by
  rw [cv_comm, cv_comm b O]
  unfold cv
  rw [List.length_set]
  have gen : ∀ m, sm (fun i => ati (O.set k v) i * sh b n i) m = sm (fun i => ati O i * sh b n i) m + if k < m then sh b n k * v else 0 := by
    intro m
    induction m with
    | zero => rfl
    | succ m ih =>
      show sm _ m + ati (O.set k v) m * sh b n m = sm _ m + ati O m * sh b n m + _
      rw [ih, ati_set hk]
      by_cases e : m = k
      · subst e
        rw [if_pos rfl, h0, if_neg (Nat.lt_irrefl _), if_pos (Nat.lt_succ_self _), Int.mul_comm v]; omega
      · rw [if_neg e]
        by_cases hm : k < m
        · rw [if_pos hm, if_pos (show k < m + 1 by omega)]; omega
        · rw [if_neg hm, if_neg (show ¬ k < m + 1 by omega)]; omega
  rw [gen, if_pos hk]
  congr 1
  unfold sh
  by_cases h1 : k ≤ n
  · rw [if_pos h1]
    by_cases h2 : n - k < b.length
    · rw [if_pos ⟨h1, h2⟩]
    · rw [if_neg (fun z => h2 z.2), ati_ge (Nat.le_of_not_lt h2), Int.zero_mul]
  · rw [if_neg h1, if_neg (fun z => h1 z.1), Int.zero_mul]
theorem trim_le {R : List Int} {m : Nat} (h : ∀ n, m ≤ n → ati R n = 0) : (trim R).length ≤ m := by
  by_cases hn : trim R = []
  · rw [hn]; exact Nat.zero_le _
  · have h1 := (trim_trim R).last hn
    rw [ati_trim] at h1
    have hp := List.length_pos_iff.mpr hn
    apply Nat.le_of_not_lt
    intro hl
    exact h1 (h _ (by omega))
theorem cv_congr {b s t : List Int} {n : Nat} (h : ∀ k, ati s k = ati t k) : cv b s n = cv b t n := by
  unfold cv sh
  exact sm_congr fun i _ => by rw [h]
theorem last_ix {ns : List Int} (h : ns ≠ []) : atI (dI ns) (-1) = some (.int (ati ns (ns.length - 1))) := by
  have hl := List.length_pos_iff.mpr h
  unfold atI
  rw [ixN_neg (by decide) (by simp; omega)]
  show (dI ns)[_]? = _
  have e : ((-1 : Int) + ((dI ns).length : Nat)).toNat = ns.length - 1 := by simp; omega
  rw [e, dI_at (by omega)]
theorem kill {p x back c : Int} (hb : c * back % p = 1) : (x - (x * back % p) * c) % p = 0 := by
  have e1 : (x * back % p * c) % p = x % p := by
    rw [Int.mul_emod, Int.emod_emod, ← Int.mul_emod, Int.mul_assoc, Int.mul_comm back c, Int.mul_emod, hb, Int.mul_one, Int.emod_emod]
  rw [Int.sub_emod, e1, Int.sub_self]; rfl
theorem rev_at {L j : Nat} {x : D} (h : (rgD 0 ((L : Int)).toNat).reverse[j]? = some x) : j < L ∧ x = .int ((L - 1 - j : Nat) : Int) := by
  have hl : j < L := by
    have := (List.getElem?_eq_some_iff.mp h).1
    simpa [rgD] using this
  refine ⟨hl, ?_⟩
  rw [List.getElem?_reverse (by simpa [rgD] using hl)] at h
  have e : (rgD 0 ((L : Int)).toNat).length - 1 - j = L - 1 - j := by simp [rgD]
  rw [e] at h
  have hx := (rng_at h).2
  rw [Int.zero_add] at hx
  exact hx
def sp_parted : DSp := fun xs M Q E => ∃ (p : Int) (a b : List Int), xs = [.int p, tI a, tI b] ∧ ((b = [] ∧ E ⟨"NoPart", []⟩ M) ∨ (Pr p ∧ In p a ∧ In p b ∧ b ≠ [] ∧ Tr b ∧ a.length ≤ 50000 ∧ b.length ≤ 50000 ∧ ∀ t r, Div p a b t r → Q (.tup [tI t, tI r]) M))
theorem set2 {M : HM} {R O : Addr} {x y z : MO} (h : R ≠ O) : mup (mup (mup M R x) O y) R z = mup (mup M R z) O y := by
  funext c
  by_cases h1 : c = R
  · subst h1; rw [mup_same, mup_ne h, mup_same]
  · by_cases h2 : c = O
    · subst h2; rw [mup_ne h1, mup_same, mup_same]
    · rw [mup_ne h1, mup_ne h2, mup_ne h1, mup_ne h2, mup_ne h1]
theorem fset_ref {M : HM} {a : Addr} {ns : List Int} {i v : Int} {Q : HM → Prop} (h : M a = some (.lst (dI ns))) (h0 : 0 ≤ i) (h1 : i < ns.length) (q : Q (mup M a (.lst (dI (ns.set i.toNat v))))) : fSet (.ref a) (.int i) (.int v) M Q := by
  unfold fSet
  dsimp only
  rw [h]
  exact ⟨i, i.toNat, rfl, ixN_lt h0 (by simpa using h1), by rw [dI_set]; exact q⟩
theorem lst_ref {M : HM} {a : Addr} {ds : List D} (h : M a = some (.lst ds)) : lstOf M (.ref a) = some ds := by
  unfold lstOf; dsimp only; rw [h]
def b_parted : DTS := (dSeq (dIf (dB (dOp fEq (dVar 2) (dTup dNil))) (dRaise0 "NoPart") dNext) (dSeq (dPar 3 4 (dCons (dCB fListM (dCons (dVar 1) dNil)) (dCons (dOp fMulM (dLst (dCons (dC (.int 0)) dNil)) (dCB fMax2 (dCons (dC (.int 0)) (dCons (dOp fAdd (dOp fSub (dCB fLen (dCons (dVar 1) dNil)) (dCB fLen (dCons (dVar 2) dNil))) (dC (.int 1))) dNil)))) dNil))) (dSeq (dAsg (dCall sp_undoing (dCons (dVar 0) (dCons (dOp fIx (dVar 2) (dNeg (dC (.int 1)))) dNil))) (dgName 5)) (dSeq (dFor (dISeq (dRevL (dLstRg1 (dCB fLen (dCons (dVar 4) dNil))))) (dgName 6) (dSeq (dAsg (dOp fMod (dCB fInt (dCons (dOp fMul (dOp fIx (dVar 3) (dOp fSub (dOp fAdd (dVar 6) (dCB fLen (dCons (dVar 2) dNil))) (dC (.int 1)))) (dVar 5)) dNil)) (dVar 0)) (dgName 7)) (dSeq (dAsg (dVar 7) (dgSub (dVar 4) (dVar 6))) (dIf (dB (dOp fNe (dVar 7) (dC (.int 0)))) (dFor (dIEnum (dCons (dVar 2) dNil)) (dgTup 2 (dgCons (dgName 8) (dgCons (dgName 9) dgNil))) (dAsg (dOp fMod (dOp fSub (dOp fIx (dVar 3) (dOp fAdd (dVar 6) (dVar 8))) (dOp fMul (dVar 7) (dVar 9))) (dVar 0)) (dgSub (dVar 3) (dOp fAdd (dVar 6) (dVar 8))))) dNext)))) (dRet (dTup (dCons (dCall sp_trimmed (dCons (dVar 4) dNil)) (dCons (dCall sp_trimmed (dCons (dVar 3) dNil)) dNil))))))))
theorem hd_parted : ∀ (xs : List D) (M : HM) (Q : DK) (E : XDK), sp_parted xs M Q E → xs.length = (["prime", "one", "other"] : List Str).length ∧ b_parted (ends Q E) (startD (["prime", "one", "other", "rest", "often", "back", "place", "colour", "further", "bead"] : List Str).length xs) M := by
  rintro xs M Q E ⟨p, a, b, rfl, hyp⟩
  refine ⟨rfl, ?_⟩
  simp only [b_parted, dNext, dSeq, dDrop, dRet, dRetN, dIf, dCall, dCB, dCBK, dCons, dNil, dVar, dC, dOp, dB, dTru, dAndT, dOrT, dNotT, dAndV, dOrV, dNotV, dIfE, dChain, dTup, dLst, dSl, dPart, dNoPart, dgName, dgTup, dgCons, dgNil, dgSub, dAsg, dPar, dAug, dNeg, ends, fLt, fLe, fGt, fGe, fSub, fMod, fDiv, fPow, fAdd, fMul, iAddI, iSubI, ii, fInt, fMax2, fMin2, fLen, fTuple, fList, List.length_cons, List.length_nil, List.map_cons, List.map_nil, startD, List.replicate, List.cons_append, List.nil_append, List.append_nil, Nat.zero_add, Nat.reduceAdd, Nat.reduceSub, List.getElem?_cons_succ, List.getElem?_cons_zero, List.set_cons_zero, List.set_cons_succ, wipeD, dRaise0]
  refine ⟨by decide, eq_tI (b := []) ⟨fun he => ?_, fun he => ?_⟩⟩
  · have hb : b = [] := by simpa using he
    rcases hyp with ⟨_, q⟩ | ⟨_, _, _, hn, _⟩
    · exact ⟨M, fun _ _ => rfl, q⟩
    · exact absurd hb hn
  have hbn : b ≠ [] := by simpa using he
  rcases hyp with ⟨hb, _⟩ | ⟨hp, ia, ib, _, tb, la, lb, q⟩
  · exact absurd hb hbn
  have hp0 := hp.pos
  have hp5 := hp.le
  have lb0 := List.length_pos_iff.mpr hbn
  have hc := tb.last hbn
  have hcr := ib.at hp0 (b.length - 1)
  simp only [fListM]
  refine ⟨dI a, rfl, fun R hR => ⟨by decide, _, rfl, _, rfl, ⟨by omega, by simp; omega, by simp; omega⟩, fun O hO => ?_⟩⟩
  have hRO : R ≠ O := fun z => by rw [← z, mup_same] at hO; cases hO
  have hO0 : M O = none := by rw [mup_ne hRO.symm] at hO; exact hO
  obtain ⟨L, hL, hL1, hL2⟩ : ∃ L : Nat, max 0 (((dI a).length : Int) - ((dI b).length : Int) + 1) = (L : Int) ∧ (L + b.length ≤ a.length + 1 ∨ L = 0) ∧ a.length ≤ L + b.length - 1 := by
    refine ⟨a.length + 1 - b.length, ?_, ?_, ?_⟩ <;> (try simp) <;> omega
  rw [hL, rep_zero]
  refine ⟨_, last_ix hbn, p, ati b (b.length - 1), rfl, hp, by omega, hcr.2, fun back bk0 bk1 hbk => ?_⟩
  simp only [dFor, dISeq, dNext, dSeq, dDrop, dRet, dRetN, dIf, dCall, dCB, dCBK, dCons, dNil, dVar, dC, dOp, dB, dTru, dAndT, dOrT, dNotT, dAndV, dOrV, dNotV, dIfE, dChain, dTup, dLst, dSl, dPart, dNoPart, dgName, dgTup, dgCons, dgNil, dgSub, dAsg, dPar, dAug, dNeg, ends, fLt, fLe, fGt, fGe, fSub, fMod, fDiv, fPow, fAdd, fMul, iAddI, iSubI, ii, fInt, fMax2, fMin2, fLen, fTuple, fList, List.length_cons, List.length_nil, List.map_cons, List.map_nil, startD, List.replicate, List.cons_append, List.nil_append, List.append_nil, Nat.zero_add, Nat.reduceAdd, Nat.reduceSub, List.getElem?_cons_succ, List.getElem?_cons_zero, List.set_cons_zero, List.set_cons_succ, wipeD]
  have hOL : ∀ M' : HM, lenOf (mup M' O (.lst (dI (List.replicate L 0)))) (.ref O) = some (L : Int) := fun M' => by
    rw [lst_len (lst_ref mup_same)]; simp
  refine ⟨_, hOL _, ⟨by omega, by omega⟩, _, rfl, _, rfl, ?_⟩
  refine forL_inv (fun j σ M' => ∃ Rl Ol o6 o7 o8 o9, σ = [some (.int p), some (tI a), some (tI b), some (.ref R), some (.ref O), some (.int back), o6, o7, o8, o9] ∧ M' = mup (mup M R (.lst (dI Rl))) O (.lst (dI Ol)) ∧ Rl.length = a.length ∧ Ol.length = L ∧ In p Rl ∧ In p Ol ∧
    (∀ n, (cv b Ol n + ati Rl n) % p = ati a n % p) ∧ (∀ n, L - j + b.length - 1 ≤ n → ati Rl n = 0) ∧ ∀ k, k < L - j → ati Ol k = 0) _ 0 ?_ ?_ ⟨a, List.replicate L 0, _, _, _, _, rfl, rfl, rfl, by simp, ia, ?_, fun n => ?_, fun n hn => ati_ge (by omega), fun k _ => ati_zeros⟩
  · rintro j x σ M' hx ⟨Rl, Ol, o6, o7, o8, o9, rfl, rfl, lR, lO, iR, iO, heq, hz, ho⟩ D' er ex eb hnx hct
    obtain ⟨hj, rfl⟩ := rev_at hx
    obtain ⟨k, hk⟩ : ∃ k, k = L - 1 - j := ⟨_, rfl⟩
    rw [← hk]
    rw [Nat.zero_add] at hnx hz ho
    have hLb : L + b.length ≤ a.length + 1 := by omega
    have hRx : lstOf (mup (mup M R (.lst (dI Rl))) O (.lst (dI Ol))) (.ref R) = some (dI Rl) := lst_ref (by rw [mup_ne hRO, mup_same])
    have hat := iR.at hp0 (k + b.length - 1)
    simp only [dNext, dSeq, dDrop, dRet, dRetN, dIf, dCall, dCB, dCBK, dCons, dNil, dVar, dC, dOp, dB, dTru, dAndT, dOrT, dNotT, dAndV, dOrV, dNotV, dIfE, dChain, dTup, dLst, dSl, dPart, dNoPart, dgName, dgTup, dgCons, dgNil, dgSub, dAsg, dPar, dAug, dNeg, ends, fLt, fLe, fGt, fGe, fSub, fMod, fDiv, fPow, fAdd, fMul, iAddI, iSubI, ii, fInt, fMax2, fMin2, fLen, fTuple, fList, List.length_cons, List.length_nil, List.map_cons, List.map_nil, startD, List.replicate, List.cons_append, List.nil_append, List.append_nil, Nat.zero_add, Nat.reduceAdd, Nat.reduceSub, List.getElem?_cons_succ, List.getElem?_cons_zero, List.set_cons_zero, List.set_cons_succ, wipeD]
    refine ⟨_, rfl, .int (ati Rl (k + b.length - 1)), ?_, ?_⟩
    · have e : ((k : Int) + ((dI b).length : Int) - 1).toNat = k + b.length - 1 := by simp; omega
      rw [lst_ix hRx, atI_dI (by simp; omega) (by simp; omega), e]
    refine ⟨⟨big200 (by omega), big200 (by omega)⟩, hp0, ?_⟩
    obtain ⟨v, hv⟩ : ∃ v, v = ati Rl (k + b.length - 1) * back % p := ⟨_, rfl⟩
    have v0 : 0 ≤ v := by rw [hv]; exact Int.emod_nonneg _ (by omega)
    have v1 : v < p := by rw [hv]; exact Int.emod_lt_of_pos _ hp0
    rw [← hv]
    refine fset_ref (ns := Ol) mup_same (by omega) (by omega) ?_
    rw [mup_mup, Int.toNat_natCast]
    have kO : k < Ol.length := by omega
    have ok0 : ati Ol k = 0 := ho k (by omega)
    refine ne_int ⟨fun hv0 => ?_, fun hv0 => ?_⟩
    · simp only [dFor, dIEnum, dNext, dSeq, dDrop, dRet, dRetN, dIf, dCall, dCB, dCBK, dCons, dNil, dVar, dC, dOp, dB, dTru, dAndT, dOrT, dNotT, dAndV, dOrV, dNotV, dIfE, dChain, dTup, dLst, dSl, dPart, dNoPart, dgName, dgTup, dgCons, dgNil, dgSub, dAsg, dPar, dAug, dNeg, ends, fLt, fLe, fGt, fGe, fSub, fMod, fDiv, fPow, fAdd, fMul, iAddI, iSubI, ii, fInt, fMax2, fMin2, fLen, fTuple, fList, List.length_cons, List.length_nil, List.map_cons, List.map_nil, startD, List.replicate, List.cons_append, List.nil_append, List.append_nil, Nat.zero_add, Nat.reduceAdd, Nat.reduceSub, List.getElem?_cons_succ, List.getElem?_cons_zero, List.set_cons_zero, List.set_cons_succ, wipeD]
      refine ⟨_, rfl, ?_⟩
      refine forL_inv (fun i σ M'' => ∃ Rl' o8 o9, σ = [some (.int p), some (tI a), some (tI b), some (.ref R), some (.ref O), some (.int back), some (.int (k : Int)), some (.int v), o8, o9] ∧ M'' = mup (mup M R (.lst (dI Rl'))) O (.lst (dI (Ol.set k v))) ∧ Rl'.length = a.length ∧ In p Rl' ∧
        ∀ n, ati Rl' n = if k ≤ n ∧ n - k < i then (ati Rl n - v * ati b (n - k)) % p else ati Rl n) _ 0 ?_ ?_ ⟨Rl, _, _, rfl, rfl, lR, iR, fun n => by rw [if_neg (by omega)]⟩
      · rintro i x σ M'' hx ⟨Rl', o8, o9, rfl, rfl, lR', iR', hR'⟩ D2 er2 ex2 eb2 hnx2 hct2
        obtain ⟨hi, rfl⟩ := enI_at hx
        rw [Nat.zero_add] at hnx2 hR'
        have hbi := ib.at hp0 i
        simp only [dNext, dSeq, dDrop, dRet, dRetN, dIf, dCall, dCB, dCBK, dCons, dNil, dVar, dC, dOp, dB, dTru, dAndT, dOrT, dNotT, dAndV, dOrV, dNotV, dIfE, dChain, dTup, dLst, dSl, dPart, dNoPart, dgName, dgTup, dgCons, dgNil, dgSub, dAsg, dPar, dAug, dNeg, ends, fLt, fLe, fGt, fGe, fSub, fMod, fDiv, fPow, fAdd, fMul, iAddI, iSubI, ii, fInt, fMax2, fMin2, fLen, fTuple, fList, List.length_cons, List.length_nil, List.map_cons, List.map_nil, startD, List.replicate, List.cons_append, List.nil_append, List.append_nil, Nat.zero_add, Nat.reduceAdd, Nat.reduceSub, List.getElem?_cons_succ, List.getElem?_cons_zero, List.set_cons_zero, List.set_cons_succ, wipeD]
        refine ⟨_, rfl, rfl, rfl, .int (ati Rl (k + i)), ?_, ⟨big200 (by omega), big200 (by omega)⟩, hp0, ?_⟩
        · have e : ((k : Int) + (i : Int)).toNat = k + i := by omega
          rw [lst_ix (lst_ref (by rw [mup_ne hRO, mup_same])), atI_dI (by omega) (by omega), e, hR', if_neg (by omega)]
        · refine fset_ref (ns := Rl') (by rw [mup_ne hRO, mup_same]) (by omega) (by omega) ?_
          rw [set2 hRO]
          have e : ((k : Int) + (i : Int)).toNat = k + i := by omega
          rw [e]
          refine hnx2 _ _ ⟨_, _, _, rfl, rfl, by rw [List.length_set]; exact lR', iR'.set ⟨Int.emod_nonneg _ (by omega), Int.emod_lt_of_pos _ hp0⟩, fun n => ?_⟩
          rw [ati_set (by omega)]
          by_cases hn : n = k + i
          · subst hn
            rw [if_pos rfl, if_pos (show k ≤ k + i ∧ k + i - k < i + 1 by omega), show k + i - k = i by omega]
          · rw [if_neg hn, hR']
            by_cases h3 : k ≤ n ∧ n - k < i
            · rw [if_pos h3, if_pos (show k ≤ n ∧ n - k < i + 1 by omega)]
            · rw [if_neg h3, if_neg (show ¬ (k ≤ n ∧ n - k < i + 1) by omega)]
      · rintro σ M'' ⟨Rl', o8, o9, rfl, rfl, lR', iR', hR'⟩
        rw [Nat.zero_add, enD_length, List.length_map] at hR'
        refine hnx _ _ ⟨Rl', Ol.set k v, _, _, _, _, rfl, rfl, lR', by rw [List.length_set]; exact lO, iR', iO.set ⟨v0, v1⟩, fun n => ?_, fun n hn => ?_, fun i hi => ?_⟩
        · rw [cv_set kO ok0, hR', ← heq n]
          by_cases h3 : k ≤ n ∧ n - k < b.length
          · rw [if_pos h3, if_pos h3, Int.add_emod_emod, Int.mul_comm v]
            congr 1; omega
          · rw [if_neg h3, if_neg h3, Int.add_zero]
        · rw [hR']
          by_cases hn2 : n = k + b.length - 1
          · subst hn2
            rw [if_pos (by omega), show k + b.length - 1 - k = b.length - 1 by omega, hv]
            exact kill hbk
          · rw [if_neg (by omega)]
            exact hz n (by omega)
        · rw [ati_set kO, if_neg (by omega)]
          exact ho i (by omega)
    · have hv0' : v = 0 := by simpa using hv0
      refine hnx _ _ ⟨Rl, Ol.set k v, _, _, _, _, rfl, rfl, lR, by rw [List.length_set]; exact lO, iR, iO.set ⟨v0, v1⟩, fun n => ?_, fun n hn => ?_, fun i hi => ?_⟩
      · rw [cv_set kO ok0, hv0', Int.mul_zero, ite_self, Int.add_zero]; exact heq n
      · by_cases hn2 : n = k + b.length - 1
        · subst hn2
          have h1 := kill (x := ati Rl (k + b.length - 1)) hbk
          rw [← hv, hv0', Int.zero_mul, Int.sub_zero, Int.emod_eq_of_lt hat.1 hat.2] at h1
          exact h1
        · exact hz n (by omega)
      · rw [ati_set kO, if_neg (by omega)]
        exact ho i (by omega)
  · rintro σ M' ⟨Rl, Ol, o6, o7, o8, o9, rfl, rfl, lR, lO, iR, iO, heq, hz, ho⟩
    have eL : (rgD 0 ((L : Int)).toNat).reverse.length = L := by simp [rgD]
    rw [Nat.zero_add, eL] at hz
    simp only [dNext, dSeq, dDrop, dRet, dRetN, dIf, dCall, dCB, dCBK, dCons, dNil, dVar, dC, dOp, dB, dTru, dAndT, dOrT, dNotT, dAndV, dOrV, dNotV, dIfE, dChain, dTup, dLst, dSl, dPart, dNoPart, dgName, dgTup, dgCons, dgNil, dgSub, dAsg, dPar, dAug, dNeg, ends, fLt, fLe, fGt, fGe, fSub, fMod, fDiv, fPow, fAdd, fMul, iAddI, iSubI, ii, fInt, fMax2, fMin2, fLen, fTuple, fList, List.length_cons, List.length_nil, List.map_cons, List.map_nil, startD, List.replicate, List.cons_append, List.nil_append, List.append_nil, Nat.zero_add, Nat.reduceAdd, Nat.reduceSub, List.getElem?_cons_succ, List.getElem?_cons_zero, List.set_cons_zero, List.set_cons_succ, wipeD]
    refine ⟨_, Ol, rfl, lst_ref mup_same, _, Rl, rfl, lst_ref (by rw [mup_ne hRO, mup_same]), by decide, .of (M' := M) (fun c hc => ?_) (q _ _ ⟨iO.trim, iR.trim, trim_trim _, trim_trim _, ?_, Nat.le_trans (trim_len _) (by omega), fun n => ?_⟩)⟩
    · rw [mup_ne (fun z => hc (by rw [z]; exact hO0)), mup_ne (fun z => hc (by rw [z]; exact hR))]
    · have := trim_le (m := b.length - 1) fun n hn => hz n (by omega)
      omega
    · rw [cv_congr (t := Ol) (fun k => ati_trim Ol k), ati_trim]; exact heq n
  · intro x hx
    rw [(List.mem_replicate.mp hx).2]; exact ⟨Int.le_refl _, hp0⟩
  · have z : cv b (List.replicate L 0) n = 0 := by
      unfold cv sh
      exact sm_zero fun i _ => by split <;> simp [ati_zeros]
    rw [z, Int.zero_add]
end DL

set_option Elab.async false
set_option linter.all false
set_option maxRecDepth 100000
set_option maxHeartbeats 400000
namespace DL
open PySem PySem.Spec PyProof.Rows L2
open PySem.W (Frag)
variable [TB]
/-! ### rows as endless sums: multiplying without carrying -/
def mulS (f g : Nat → Int) (n : Nat) : Int := sm (fun i => f i * g (n - i)) (n + 1)
def Cg (p : Int) (f g : Nat → Int) : Prop := ∀ n, f n % p = g n % p
theorem cv_mulS (a b : List Int) (n : Nat) : cv a b n = mulS (ati a) (ati b) n := cv_eq a b n
theorem mulS_comm (f g : Nat → Int) (n : Nat) : mulS f g n = mulS g f n := by
  unfold mulS
  rw [sm_refl]
  exact sm_congr fun i hi => by
    rw [Int.mul_comm]
    congr 2 <;> omega
theorem sm_add (f g : Nat → Int) : ∀ n, sm (fun i => f i + g i) n = sm f n + sm g n
  | 0 => rfl
  | n + 1 => by
    show sm (fun i => f i + g i) n + (f n + g n) = (sm f n + f n) + (sm g n + g n)
    rw [sm_add f g n]; omega
theorem sm_mul (c : Int) (f : Nat → Int) : ∀ n, sm (fun i => c * f i) n = c * sm f n
  | 0 => by show (0 : Int) = c * 0; rw [Int.mul_zero]
  | n + 1 => by
    show sm (fun i => c * f i) n + c * f n = c * (sm f n + f n)
    rw [sm_mul c f n, Int.mul_add]
theorem mulS_add (f g h : Nat → Int) (n : Nat) : mulS f (fun i => g i + h i) n = mulS f g n + mulS f h n := by
  unfold mulS
  rw [← sm_add]
  exact sm_congr fun i _ => by rw [Int.mul_add]
theorem mulS_scal (f g : Nat → Int) (c : Int) (n : Nat) : mulS f (fun i => c * g i) n = c * mulS f g n := by
  unfold mulS
  rw [← sm_mul]
  exact sm_congr fun i _ => by rw [Int.mul_left_comm]
/-- a three-cornered sum, the other way about -/
theorem sm_tri (F : Nat → Nat → Int) : ∀ n, sm (fun i => sm (fun j => F i j) (i + 1)) (n + 1) = sm (fun j => sm (fun k => F (j + k) j) (n - j + 1)) (n + 1)
  | 0 => rfl
  | n + 1 => by
    show sm (fun i => sm (fun j => F i j) (i + 1)) (n + 1) + sm (fun j => F (n + 1) j) (n + 1 + 1) = sm (fun j => sm (fun k => F (j + k) j) (n + 1 - j + 1)) (n + 1) + sm (fun k => F (n + 1 + k) (n + 1)) (n + 1 - (n + 1) + 1)
    rw [sm_tri F n]
    have e1 : sm (fun j => sm (fun k => F (j + k) j) (n + 1 - j + 1)) (n + 1) = sm (fun j => sm (fun k => F (j + k) j) (n - j + 1) + F (n + 1) j) (n + 1) := sm_congr fun j hj => by
      have e : n + 1 - j + 1 = (n - j + 1) + 1 := by omega
      rw [e]
      show sm (fun k => F (j + k) j) (n - j + 1) + F (j + (n - j + 1)) j = _
      have e2 : j + (n - j + 1) = n + 1 := by omega
      rw [e2]
    have e3 : sm (fun k => F (n + 1 + k) (n + 1)) (n + 1 - (n + 1) + 1) = F (n + 1) (n + 1) := by
      rw [Nat.sub_self]
      show 0 + F (n + 1 + 0) (n + 1) = _
      rw [Int.zero_add, Nat.add_zero]
    rw [e1, sm_add, e3]
    exact (Int.add_assoc _ _ _).symm
theorem sm_mulR (c : Int) (f : Nat → Int) (n : Nat) : sm (fun i => f i * c) n = sm f n * c := by
  rw [Int.mul_comm, ← sm_mul]
  exact sm_congr fun i _ => Int.mul_comm _ _
theorem mulS_assoc (f g h : Nat → Int) (n : Nat) : mulS (mulS f g) h n = mulS f (mulS g h) n := by
  unfold mulS
  have e1 : sm (fun i => sm (fun j => f j * g (i - j)) (i + 1) * h (n - i)) (n + 1) = sm (fun i => sm (fun j => f j * g (i - j) * h (n - i)) (i + 1)) (n + 1) := sm_congr fun i _ => (sm_mulR _ _ _).symm
  rw [e1, sm_tri]
  refine sm_congr fun j hj => ?_
  rw [← sm_mul]
  refine sm_congr fun k hk => ?_
  have e2 : j + k - j = k := by omega
  have e3 : n - (j + k) = n - j - k := by omega
  rw [e2, e3, Int.mul_assoc]
theorem Cg.refl {p : Int} (f : Nat → Int) : Cg p f f := fun _ => rfl
theorem Cg.symm {p : Int} {f g : Nat → Int} (h : Cg p f g) : Cg p g f := fun n => (h n).symm
theorem Cg.trans {p : Int} {f g h : Nat → Int} (a : Cg p f g) (b : Cg p g h) : Cg p f h := fun n => (a n).trans (b n)
theorem Cg.mul {p : Int} {f f' g g' : Nat → Int} (a : Cg p f f') (b : Cg p g g') : Cg p (mulS f g) (mulS f' g') := fun n => sm_mod fun i _ => by rw [Int.mul_emod, a, b, ← Int.mul_emod]
theorem Cg.add {p : Int} {f f' g g' : Nat → Int} (a : Cg p f f') (b : Cg p g g') : Cg p (fun i => f i + g i) (fun i => f' i + g' i) := fun n => by
  show (f n + g n) % p = (f' n + g' n) % p
  rw [Int.add_emod, a, b, ← Int.add_emod]
theorem Cg.scal {p : Int} {f f' : Nat → Int} (c : Int) (a : Cg p f f') : Cg p (fun i => c * f i) (fun i => c * f' i) := fun n => by
  show (c * f n) % p = (c * f' n) % p
  rw [Int.mul_emod, a, ← Int.mul_emod]
/-! ### a row told round the prime -/
def redP (p : Int) (t : List Int) : List Int := trim (t.map (· % p))
theorem ati_map {t : List Int} {f : Int → Int} (h0 : f 0 = 0) (k : Nat) : ati (t.map f) k = f (ati t k) := by
  unfold ati
  by_cases h : k < t.length
  · simp [h]
  · simp [h, h0]
theorem red_cg {p : Int} (t : List Int) : Cg p (ati (redP p t)) (ati t) := fun n => by
  unfold redP
  rw [ati_trim, ati_map (Int.zero_emod p), Int.emod_emod]
theorem red_in {p : Int} (hp : 0 < p) (t : List Int) : In p (redP p t) := In.trim fun x hx => by
  obtain ⟨y, _, rfl⟩ := List.mem_map.mp hx
  exact ⟨Int.emod_nonneg _ (by omega), Int.emod_lt_of_pos _ hp⟩
theorem red_tr {p : Int} (t : List Int) : Tr (redP p t) := trim_trim _
/-- the last bead of a product -/
theorem cv_last {a b : List Int} (ha : a ≠ []) (hb : b ≠ []) : cv a b (a.length + b.length - 2) = ati a (a.length - 1) * ati b (b.length - 1) := by
  have la := List.length_pos_iff.mpr ha
  have lb := List.length_pos_iff.mpr hb
  unfold cv
  obtain ⟨k, hk⟩ : ∃ k, a.length = k + 1 := ⟨a.length - 1, by omega⟩
  rw [hk]
  show sm _ k + ati a k * sh b (k + 1 + b.length - 2) k = _
  have e1 : sm (fun i => ati a i * sh b (k + 1 + b.length - 2) i) k = 0 := sm_zero fun i hi => by
    unfold sh
    rw [if_pos (by omega), ati_ge (show b.length ≤ k + 1 + b.length - 2 - i by omega), Int.mul_zero]
  rw [e1, Int.zero_add]
  unfold sh
  rw [if_pos (by omega), show k + 1 + b.length - 2 - k = b.length - 1 by omega, show k + 1 - 1 = k by omega]
theorem no_nought {p : Nat} : (p = 2 ∨ p = 3 ∨ p = 5) → ∀ x : Nat, x < p → ∀ y : Nat, y < p → x * y % p = 0 → x = 0 ∨ y = 0 := by
  intro hp
  rcases hp with h | h | h <;> subst h <;> decide
theorem no_noughtI {p x y : Int} (hp : Pr p) (x0 : 0 ≤ x) (x1 : x < p) (y0 : 0 ≤ y) (y1 : y < p) (h : x * y % p = 0) : x = 0 ∨ y = 0 := by
  obtain ⟨q, rfl⟩ : ∃ q : Nat, p = (q : Int) := ⟨p.toNat, by have := hp.pos; omega⟩
  obtain ⟨a, rfl⟩ : ∃ a : Nat, x = (a : Int) := ⟨x.toNat, by omega⟩
  obtain ⟨b, rfl⟩ : ∃ b : Nat, y = (b : Int) := ⟨y.toNat, by omega⟩
  have h' : a * b % q = 0 := by
    rw [← Int.natCast_mul, ← Int.natCast_emod] at h
    omega
  have := no_nought (p := q) (by rcases hp with h | h | h <;> omega) a (by omega) b (by omega) h'
  omega
/-- a product's last bead is none of the noughts -/
theorem prod_top {p : Int} {a b : List Int} (hp : Pr p) (ia : In p a) (ib : In p b) (ta : Tr a) (tb : Tr b) (ha : a ≠ []) (hb : b ≠ []) : cv a b (a.length + b.length - 2) % p ≠ 0 := by
  intro z
  rw [cv_last ha hb] at z
  have h1 := ia.at hp.pos (a.length - 1)
  have h2 := ib.at hp.pos (b.length - 1)
  rcases no_noughtI hp h1.1 h1.2 h2.1 h2.2 z with h | h
  · exact ta.last ha h
  · exact tb.last hb h
/-! ### goes into -/
def Dv (p : Int) (d a : List Int) : Prop := ∃ t : List Int, In p t ∧ Tr t ∧ ∀ n, cv d t n % p = ati a n % p
theorem Dv.mk {p : Int} (hp : 0 < p) {d a t : List Int} (h : ∀ n, cv d t n % p = ati a n % p) : Dv p d a := ⟨redP p t, red_in hp t, red_tr t, fun n => by
  rw [cv_mulS, ← h n, cv_mulS]
  exact (Cg.refl (ati d)).mul (red_cg t) n⟩
theorem Dv.refl {p : Int} (hp : 0 < p) (d : List Int) : Dv p d d := Dv.mk hp (t := [1]) fun n => by
  rw [cv_comm]
  unfold cv
  show (0 + ati [1] 0 * sh d n 0) % p = _
  unfold sh
  rw [if_pos (Nat.zero_le _), Nat.sub_zero, Int.zero_add, show ati [1] 0 = 1 from rfl, Int.one_mul]
theorem Dv.trans {p : Int} (hp : 0 < p) {d e a : List Int} (h1 : Dv p d e) (h2 : Dv p e a) : Dv p d a := by
  obtain ⟨t, _, _, e1⟩ := h1
  obtain ⟨u, _, _, e2⟩ := h2
  refine Dv.mk hp (t := prodR p t u) fun n => ?_
  rw [cv_mulS, ← e2 n, cv_mulS]
  have s1 : Cg p (ati (prodR p t u)) (mulS (ati t) (ati u)) := fun n => by rw [ati_prodR, Int.emod_emod, cv_mulS]
  have s2 : Cg p (mulS (ati d) (ati t)) (ati e) := fun n => by rw [← cv_mulS]; exact e1 n
  have s3 := (Cg.refl (ati d)).mul s1 n
  rw [s3, ← mulS_assoc]
  exact s2.mul (Cg.refl (ati u)) n
/-- what is shorter isn't gone into, but for the nought -/
theorem Dv.short {p : Int} {d a : List Int} (hp : Pr p) (id : In p d) (td : Tr d) (hd : d ≠ []) (ia : In p a) (ta : Tr a) (h : Dv p d a) (hl : a.length < d.length) : a = [] := by
  obtain ⟨t, it, tt, e⟩ := h
  by_cases ht : t = []
  · subst ht
    refine Tr.ext ta rfl fun k => ?_
    have z : cv d [] k = 0 := by
      rw [cv_comm]; rfl
    have h1 := e k
    rw [z, Int.zero_emod] at h1
    have h2 := ia.at hp.pos k
    rw [Int.emod_eq_of_lt h2.1 h2.2] at h1
    rw [← h1, ati_nil]
  · exfalso
    have l1 := List.length_pos_iff.mpr ht
    have l2 := List.length_pos_iff.mpr hd
    have h1 := prod_top hp id it td tt hd ht
    rw [e, ati_ge (show a.length ≤ d.length + t.length - 2 by omega)] at h1
    exact h1 (Int.zero_emod p)
theorem Dv.len {p : Int} {d a : List Int} (hp : Pr p) (id : In p d) (td : Tr d) (ia : In p a) (ta : Tr a) (ha : a ≠ []) (hd : d ≠ []) (h : Dv p d a) : d.length ≤ a.length := by
  apply Nat.le_of_not_lt
  intro hl
  exact ha (h.short hp id td hd ia ta hl)
/-- last bead 1 -/
def Mo (g : List Int) : Prop := g ≠ [] ∧ ati g (g.length - 1) = 1
theorem mo_eq {p : Int} {g k : List Int} (hp : Pr p) (ig : In p g) (tg : Tr g) (mg : Mo g) (ik : In p k) (tk : Tr k) (mk : Mo k) (h1 : Dv p g k) (h2 : Dv p k g) : g = k := by
  have l1 := h1.len hp ig tg ik tk mk.1 mg.1
  have l2 := h2.len hp ik tk ig tg mg.1 mk.1
  obtain ⟨t, it, tt, e⟩ := h1
  have hl : g.length = k.length := by omega
  have lg := List.length_pos_iff.mpr mg.1
  have ht : t ≠ [] := by
    intro z
    subst z
    have z : cv g [] (k.length - 1) = 0 := by rw [cv_comm]; rfl
    have h3 := e (k.length - 1)
    rw [z, mk.2, Int.zero_emod] at h3
    have := hp.le
    have := hp.pos
    rw [Int.emod_eq_of_lt (by decide) (by rcases hp with h | h | h <;> omega)] at h3
    cases h3
  have lt := List.length_pos_iff.mpr ht
  have h3 := prod_top hp ig it tg tt mg.1 ht
  have lt1 : t.length = 1 := by
    apply Classical.byContradiction
    intro hn
    rw [e, ati_ge (show k.length ≤ g.length + t.length - 2 by omega)] at h3
    exact h3 (Int.zero_emod p)
  obtain ⟨c, rfl⟩ : ∃ c, t = [c] := by
    cases t with
    | nil => cases lt1
    | cons c r => cases r with
      | nil => exact ⟨c, rfl⟩
      | cons => simp at lt1
  have cvc : ∀ n, cv g [c] n = c * ati g n := fun n => by
    rw [cv_comm]
    unfold cv
    show 0 + ati [c] 0 * sh g n 0 = _
    unfold sh
    rw [if_pos (Nat.zero_le _), Nat.sub_zero, Int.zero_add]; rfl
  have hc := it c List.mem_cons_self
  have p1 : (1 : Int) % p = 1 := Int.emod_eq_of_lt (by decide) (by rcases hp with h | h | h <;> omega)
  have c1 : c = 1 := by
    have h4 := e (g.length - 1)
    rw [cvc, mg.2, Int.mul_one, hl, mk.2, p1, Int.emod_eq_of_lt hc.1 hc.2] at h4
    exact h4
  refine Tr.ext tg tk fun n => ?_
  have h5 := e n
  rw [cvc, c1, Int.one_mul] at h5
  have a1 := ig.at hp.pos n
  have a2 := ik.at hp.pos n
  rwa [Int.emod_eq_of_lt a1.1 a1.2, Int.emod_eq_of_lt a2.1 a2.2] at h5
end DL

set_option Elab.async false
set_option linter.all false
set_option maxRecDepth 100000
set_option maxHeartbeats 400000
namespace DL
open PySem PySem.Spec PyProof.Rows L2
open PySem.W (Frag)
variable [TB]
/-! ### functions that end -/
def Fs (f : Nat → Int) : Prop := ∃ N, ∀ n, N ≤ n → f n = 0
theorem Fs.ati (a : List Int) : Fs (ati a) := ⟨a.length, fun _ h => ati_ge h⟩
theorem Fs.add {f g : Nat → Int} : Fs f → Fs g → Fs (fun i => f i + g i) := fun ⟨N, h⟩ ⟨M, k⟩ => ⟨N + M, fun n hn => by show f n + g n = 0; rw [h n (by omega), k n (by omega)]; rfl⟩
theorem Fs.scal {f : Nat → Int} (c : Int) : Fs f → Fs (fun i => c * f i) := fun ⟨N, h⟩ => ⟨N, fun n hn => by show c * f n = 0; rw [h n hn, Int.mul_zero]⟩
theorem Fs.mul {f g : Nat → Int} : Fs f → Fs g → Fs (mulS f g) := fun ⟨N, h⟩ ⟨M, k⟩ => ⟨N + M, fun n hn => sm_zero fun i hi => by
  by_cases hN : N ≤ i
  · rw [h i hN, Int.zero_mul]
  · rw [k (n - i) (by omega), Int.mul_zero]⟩
theorem Fs.list {f : Nat → Int} : Fs f → ∃ t : List Int, ∀ n, DL.ati t n = f n := fun ⟨N, h⟩ => ⟨(List.range N).map f, fun n => by
  rw [ati_range]
  split
  · rfl
  · rw [h n (by omega)]⟩
theorem Dv.of {p : Int} (hp : 0 < p) {d a : List Int} {f : Nat → Int} (hf : Fs f) (h : Cg p (mulS (ati d) f) (ati a)) : Dv p d a := by
  obtain ⟨t, ht⟩ := hf.list
  refine Dv.mk hp (t := t) fun n => ?_
  rw [cv_mulS, ← h n]
  have e : mulS (ati d) (ati t) n = mulS (ati d) f n := sm_congr fun i _ => by rw [ht]
  rw [e]
theorem Dv.fs {p : Int} {d a : List Int} (h : Dv p d a) : ∃ f, Fs f ∧ Cg p (mulS (ati d) f) (ati a) := by
  obtain ⟨t, _, _, e⟩ := h
  exact ⟨ati t, .ati t, fun n => by rw [← cv_mulS]; exact e n⟩
theorem mulS_nil (f : Nat → Int) (n : Nat) : mulS (ati []) f n = 0 := sm_zero fun i _ => by rw [ati_nil, Int.zero_mul]
theorem Dv.nil {p : Int} (d : List Int) : Dv p d [] := ⟨[], (fun _ z => nomatch z), rfl, fun n => by
  have z : cv d [] n = 0 := by rw [cv_comm]; rfl
  rw [z, ati_nil]⟩
theorem In.zero {p : Int} {a : List Int} (hp : 0 < p) (ia : In p a) (ta : Tr a) (h : ∀ n, ati a n % p = 0) : a = [] := Tr.ext ta rfl fun n => by
  have h1 := ia.at hp n
  have h2 := h n
  rw [Int.emod_eq_of_lt h1.1 h1.2] at h2
  rw [h2, ati_nil]
theorem Dv.of_nil {p : Int} {a : List Int} (hp : 0 < p) (ia : In p a) (ta : Tr a) (h : Dv p [] a) : a = [] := by
  obtain ⟨t, _, _, e⟩ := h
  exact In.zero hp ia ta fun n => by rw [← e n]; rfl
/-- a sum of multiples of a and b -/
def Lc (p : Int) (a b x : List Int) : Prop := ∃ u v, Fs u ∧ Fs v ∧ Cg p (fun n => mulS (ati a) u n + mulS (ati b) v n) (ati x)
theorem Lc.dv {p : Int} (hp : 0 < p) {a b x d : List Int} (h : Lc p a b x) (ha : Dv p d a) (hb : Dv p d b) : Dv p d x := by
  obtain ⟨u, v, fu, fv, e⟩ := h
  obtain ⟨s, fs, es⟩ := ha.fs
  obtain ⟨t, ft, et⟩ := hb.fs
  refine Dv.of hp ((fs.mul fu).add (ft.mul fv)) ?_
  refine Cg.trans (fun n => ?_) e
  rw [mulS_add, ← mulS_assoc, ← mulS_assoc]
  exact Cg.add (es.mul (.refl u)) (et.mul (.refl v)) n
theorem Div.cg {p : Int} {x y t r : List Int} (d : Div p x y t r) : Cg p (fun n => mulS (ati y) (ati t) n + ati r n) (ati x) := fun n => by
  show (mulS (ati y) (ati t) n + ati r n) % p = _
  rw [← cv_mulS]; exact d.eq n
/-- what goes into the divisor and the rest goes into the one -/
theorem Div.dv {p : Int} (hp : 0 < p) {x y t r d : List Int} (h : Div p x y t r) (hy : Dv p d y) (hr : Dv p d r) : Dv p d x := by
  obtain ⟨s, fs, es⟩ := hy.fs
  obtain ⟨q, fq, eq⟩ := hr.fs
  refine Dv.of hp ((fs.mul (.ati t)).add fq) ?_
  refine Cg.trans (fun n => ?_) h.cg
  rw [mulS_add, ← mulS_assoc]
  exact Cg.add (es.mul (.refl (ati t))) eq n
theorem mulS_addR (g h f : Nat → Int) (n : Nat) : mulS (fun i => g i + h i) f n = mulS g f n + mulS h f n := by
  rw [mulS_comm _ f, mulS_add, mulS_comm f g, mulS_comm f h]
theorem mulS_neg (f g : Nat → Int) (n : Nat) : mulS f (fun i => (-1) * g i) n = (-1) * mulS f g n := mulS_scal f g (-1) n
theorem Div.lc {p : Int} {a b x y t r : List Int} (h : Div p x y t r) (hx : Lc p a b x) (hy : Lc p a b y) : Lc p a b r := by
  obtain ⟨u, v, fu, fv, e⟩ := hx
  obtain ⟨u', v', fu', fv', e'⟩ := hy
  refine ⟨fun i => u i + (-1) * mulS u' (ati t) i, fun i => v i + (-1) * mulS v' (ati t) i, fu.add ((fu'.mul (.ati t)).scal (-1)), fv.add ((fv'.mul (.ati t)).scal (-1)), fun n => ?_⟩
  have e1 : mulS (ati a) (fun i => u i + (-1) * mulS u' (ati t) i) n + mulS (ati b) (fun i => v i + (-1) * mulS v' (ati t) i) n = (mulS (ati a) u n + mulS (ati b) v n) + (-1) * mulS (fun i => mulS (ati a) u' i + mulS (ati b) v' i) (ati t) n := by
    rw [mulS_add, mulS_add, mulS_neg, mulS_neg, ← mulS_assoc, ← mulS_assoc, mulS_addR]
    generalize mulS (ati a) u n = A1
    generalize mulS (ati b) v n = A2
    generalize mulS (mulS (ati a) u') (ati t) n = A3
    generalize mulS (mulS (ati b) v') (ati t) n = A4
    omega
  show (mulS (ati a) (fun i => u i + (-1) * mulS u' (ati t) i) n + mulS (ati b) (fun i => v i + (-1) * mulS v' (ati t) i) n) % p = _
  rw [e1]
  have e2 : Cg p (fun n => (mulS (ati a) u n + mulS (ati b) v n) + (-1) * mulS (fun i => mulS (ati a) u' i + mulS (ati b) v' i) (ati t) n) (fun n => ati x n + (-1) * mulS (ati y) (ati t) n) := e.add ((e'.mul (.refl (ati t))).scal (-1))
  rw [show ((mulS (ati a) u n + mulS (ati b) v n) + (-1) * mulS (fun i => mulS (ati a) u' i + mulS (ati b) v' i) (ati t) n) % p = _ from e2 n]
  have e3 : Cg p (fun n => ati x n + (-1) * mulS (ati y) (ati t) n) (fun n => (mulS (ati y) (ati t) n + ati r n) + (-1) * mulS (ati y) (ati t) n) := (h.cg.symm).add (.refl _)
  rw [show (ati x n + (-1) * mulS (ati y) (ati t) n) % p = _ from e3 n]
  congr 1
  show mulS (ati y) (ati t) n + ati r n + (-1) * mulS (ati y) (ati t) n = ati r n
  omega
theorem Lc.left {p : Int} (a b : List Int) : Lc p a b a := ⟨ati [1], ati [], .ati _, .ati _, fun n => by
  show (mulS (ati a) (ati [1]) n + mulS (ati b) (ati []) n) % p = _
  rw [mulS_comm (ati b), mulS_nil, mulS_comm, ← cv_mulS, Int.add_zero]
  unfold cv
  show (0 + ati [1] 0 * sh a n 0) % p = _
  unfold sh
  rw [if_pos (Nat.zero_le _), Nat.sub_zero, Int.zero_add, show ati [1] 0 = 1 from rfl, Int.one_mul]⟩
theorem Lc.right {p : Int} (a b : List Int) : Lc p a b b := by
  obtain ⟨u, v, fu, fv, e⟩ := Lc.left (p := p) b a
  exact ⟨v, u, fv, fu, fun n => by rw [← e n]; show (_ + _) % p = (_ + _) % p; rw [Int.add_comm]⟩
/-- the common part -/
structure Com (p : Int) (a b g : List Int) : Prop where
  ig : In p g
  tg : Tr g
  nil : a = [] → b = [] → g = []
  mo : ¬ (a = [] ∧ b = []) → Mo g
  da : Dv p g a
  db : Dv p g b
  lc : Lc p a b g
  len : g.length ≤ max a.length b.length
/-- a multiple by a number that can be undone -/
theorem com_scaled {p i : Int} {a b x : List Int} (hp : Pr p) (ix : In p x) (tx : Tr x) (hx : x ≠ []) (i0 : 0 ≤ i) (i1 : i < p) (hi : ati x (x.length - 1) * i % p = 1) (lx : x.length ≤ max a.length b.length) (cx : Lc p a b x) (dv : ∀ d, Dv p d x → Dv p d [] → Dv p d a ∧ Dv p d b) (hab : ¬ (a = [] ∧ b = []) ∨ True) : Com p a b (trim (x.map fun z => z * i % p)) := by
  have hp0 := hp.pos
  have at_ : ∀ k, ati (trim (x.map fun z => z * i % p)) k = ati x k * i % p := fun k => by
    rw [ati_trim, ati_map (f := fun z => z * i % p) (by show 0 * i % p = 0; rw [Int.zero_mul, Int.zero_emod])]
  have lx0 := List.length_pos_iff.mpr hx
  have hlen : (x.map fun z => z * i % p).length = x.length := by simp
  have hlast : ati (x.map fun z => z * i % p) (x.length - 1) = 1 := by
    rw [← hi, ← at_, ati_trim]
  have hT : Tr (x.map fun z => z * i % p) := by
    have h := take_trim (ns := x.map fun z => z * i % p) (m := x.length) (by rw [hlen]; exact Nat.le_refl _) (fun k hk => ati_ge (by rw [hlen]; exact hk)) (.inr (by rw [hlast]; decide))
    rw [List.take_of_length_le (by rw [hlen]; exact Nat.le_refl _)] at h
    exact h.symm
  have eT : trim (x.map fun z => z * i % p) = x.map fun z => z * i % p := hT
  -- g is x times i, x is g times the last
  have g1 : Cg p (fun n => i * ati x n) (ati (trim (x.map fun z => z * i % p))) := fun n => by
    rw [at_, Int.emod_emod, Int.mul_comm]
  have g2 : Cg p (mulS (ati (trim (x.map fun z => z * i % p))) (fun k => ati x (x.length - 1) * ati [1] k)) (ati x) := fun n => by
    rw [mulS_scal, mulS_comm, ← cv_mulS]
    have e : cv [1] (trim (x.map fun z => z * i % p)) n = ati (trim (x.map fun z => z * i % p)) n := by
      unfold cv
      show 0 + ati [1] 0 * sh _ n 0 = _
      unfold sh
      rw [if_pos (Nat.zero_le _), Nat.sub_zero, Int.zero_add, show ati [1] 0 = 1 from rfl, Int.one_mul]
    rw [e, at_, Int.mul_emod, Int.emod_emod, ← Int.mul_emod, Int.mul_comm (ati x n), ← Int.mul_assoc, Int.mul_emod, hi, Int.one_mul, Int.emod_emod]
  have dgx : Dv p (trim (x.map fun z => z * i % p)) x := Dv.of hp0 (Fs.scal _ (.ati [1])) g2
  obtain ⟨da, db⟩ := dv _ dgx (.nil _)
  obtain ⟨u, v, fu, fv, e⟩ := cx
  refine ⟨In.trim fun z hz => ?_, trim_trim _, fun ea eb => ?_, fun _ => ?_, da, db, ⟨fun k => i * u k, fun k => i * v k, fu.scal i, fv.scal i, fun n => ?_⟩, Nat.le_trans (trim_len _) (by rw [hlen]; exact lx)⟩
  · obtain ⟨w, _, rfl⟩ := List.mem_map.mp hz
    exact ⟨Int.emod_nonneg _ (by omega), Int.emod_lt_of_pos _ hp0⟩
  · subst ea eb
    simp at lx
    exact absurd lx hx
  · rw [eT]
    refine ⟨fun z => hx (by cases x with | nil => rfl | cons => cases z), ?_⟩
    rw [hlen, hlast]
  · show (mulS (ati a) (fun k => i * u k) n + mulS (ati b) (fun k => i * v k) n) % p = _
    rw [mulS_scal, mulS_scal, ← Int.mul_add, ← g1 n]
    exact (Cg.scal i e) n
def sp_scaled : DSp := fun xs M Q _ => ∃ (p c : Int) (a : List Int), xs = [.int p, tI a, .int c] ∧ 0 < p ∧ a.length ≤ 100000 ∧ (∀ x ∈ a, x.natAbs ≤ 1000) ∧ c.natAbs ≤ 1000 ∧ Q (tI (trim (a.map fun x => x * c % p))) M
def b_scaled : DTS := (dRet (dCall sp_trimmed (dCons (dComp (dISeq (dVar 1)) (tgN 3) dYes (dOp fMod (dCB fInt (dCons (dOp fMul (dVar 3) (dVar 2)) dNil)) (dVar 0)) [3]) dNil)))
theorem hd_scaled : ∀ (xs : List D) (M : HM) (Q : DK) (E : XDK), sp_scaled xs M Q E → xs.length = (["prime", "one", "colour"] : List Str).length ∧ b_scaled (ends Q E) (startD (["prime", "one", "colour", "bead"] : List Str).length xs) M := by
  rintro xs M Q E ⟨p, c, a, rfl, hp, hl, hx, hc, q⟩
  refine ⟨rfl, ?_⟩
  simp only [b_scaled, dNext, dSeq, dDrop, dRet, dRetN, dIf, dCall, dCB, dCBK, dCons, dNil, dVar, dC, dOp, dB, dTru, dAndT, dOrT, dNotT, dAndV, dOrV, dNotV, dIfE, dChain, dTup, dLst, dSl, dPart, dNoPart, dgName, dgTup, dgCons, dgNil, dgSub, dAsg, dPar, dAug, dNeg, ends, fLt, fLe, fGt, fGe, fSub, fMod, fDiv, fPow, fAdd, fMul, iAddI, iSubI, ii, fInt, fMax2, fMin2, fLen, fTuple, fList, List.length_cons, List.length_nil, List.map_cons, List.map_nil, startD, List.replicate, List.cons_append, List.nil_append, List.append_nil, Nat.zero_add, Nat.reduceAdd, Nat.reduceSub, List.getElem?_cons_succ, List.getElem?_cons_zero, List.set_cons_zero, List.set_cons_succ, wipeD]
  refine comp_ints (x := tI a) (M1 := M) (g := fun x => .int (x * c % p)) rfl (fun Q' q' => q') (by omega) (fun x hxa Q' q' => ?_) ?_
  · simp only [dNext, dSeq, dDrop, dRet, dRetN, dIf, dCall, dCB, dCBK, dCons, dNil, dVar, dC, dOp, dB, dTru, dAndT, dOrT, dNotT, dAndV, dOrV, dNotV, dIfE, dChain, dTup, dLst, dSl, dPart, dNoPart, dgName, dgTup, dgCons, dgNil, dgSub, dAsg, dPar, dAug, dNeg, ends, fLt, fLe, fGt, fGe, fSub, fMod, fDiv, fPow, fAdd, fMul, iAddI, iSubI, ii, fInt, fMax2, fMin2, fLen, fTuple, fList, List.length_cons, List.length_nil, List.map_cons, List.map_nil, startD, List.replicate, List.cons_append, List.nil_append, List.append_nil, Nat.zero_add, Nat.reduceAdd, Nat.reduceSub, List.getElem?_cons_succ, List.getElem?_cons_zero, List.set_cons_zero, List.set_cons_succ, wipeD]
    exact ⟨⟨big200 (by have := hx x hxa; omega), big200 (by omega)⟩, hp, q'⟩
  · refine ⟨_, a.map fun x => x * c % p, rfl, ?_, .here q⟩
    simp [dI, seqOf, lstOf, Function.comp_def]
def sp_common : DSp := fun xs M Q _ => ∃ (p : Int) (a b : List Int), xs = [.int p, tI a, tI b] ∧ Pr p ∧ In p a ∧ Tr a ∧ In p b ∧ Tr b ∧ a.length ≤ 5000 ∧ b.length ≤ 5000 ∧ ∀ g, Com p a b g → Q (tI g) M
def b_common : DTS := (dSeq (dWhile (dB (dOp fNe (dVar 2) (dTup dNil))) (dPar 1 2 (dCons (dVar 2) (dCons (dOp fIx (dCall sp_parted (dCons (dVar 0) (dCons (dVar 1) (dCons (dVar 2) dNil)))) (dC (.int 1))) dNil)))) (dRet (dIfE (dB (dOp fEq (dVar 1) (dTup dNil))) (dVar 1) (dCall sp_scaled (dCons (dVar 0) (dCons (dVar 1) (dCons (dCall sp_undoing (dCons (dVar 0) (dCons (dOp fIx (dVar 1) (dNeg (dC (.int 1)))) dNil))) dNil)))))))
theorem hd_common : ∀ (xs : List D) (M : HM) (Q : DK) (E : XDK), sp_common xs M Q E → xs.length = (["prime", "one", "other"] : List Str).length ∧ b_common (ends Q E) (startD (["prime", "one", "other"] : List Str).length xs) M := by
  rintro xs M Q E ⟨p, a, b, rfl, hp, ia, ta, ib, tb, la, lb, q⟩
  refine ⟨rfl, ?_⟩
  have hp0 := hp.pos
  have hp5 := hp.le
  simp only [b_common, dNext, dSeq, dDrop, dRet, dRetN, dIf, dCall, dCB, dCBK, dCons, dNil, dVar, dC, dOp, dB, dTru, dAndT, dOrT, dNotT, dAndV, dOrV, dNotV, dIfE, dChain, dTup, dLst, dSl, dPart, dNoPart, dgName, dgTup, dgCons, dgNil, dgSub, dAsg, dPar, dAug, dNeg, ends, fLt, fLe, fGt, fGe, fSub, fMod, fDiv, fPow, fAdd, fMul, iAddI, iSubI, ii, fInt, fMax2, fMin2, fLen, fTuple, fList, List.length_cons, List.length_nil, List.map_cons, List.map_nil, startD, List.replicate, List.cons_append, List.nil_append, List.append_nil, Nat.zero_add, Nat.reduceAdd, Nat.reduceSub, List.getElem?_cons_succ, List.getElem?_cons_zero, List.set_cons_zero, List.set_cons_succ, wipeD, dWhile]
  refine ⟨fun m σ M' => M' = M ∧ ∃ x y, σ = [some (.int p), some (tI x), some (tI y)] ∧ m = y.length ∧ In p x ∧ Tr x ∧ In p y ∧ Tr y ∧ x.length ≤ max a.length b.length ∧ y.length ≤ max a.length b.length ∧ Lc p a b x ∧ Lc p a b y ∧ ∀ d, Dv p d x → Dv p d y → Dv p d a ∧ Dv p d b,
    ⟨b.length, rfl, a, b, rfl, rfl, ia, ta, ib, tb, by omega, by omega, .left a b, .right a b, fun d h1 h2 => ⟨h1, h2⟩⟩, ?_⟩
  rintro m σ M' ⟨rfl, x, y, rfl, rfl, ix, tx, iy, ty, lx, ly, cx, cy, dv⟩
  simp only [dNext, dSeq, dDrop, dRet, dRetN, dIf, dCall, dCB, dCBK, dCons, dNil, dVar, dC, dOp, dB, dTru, dAndT, dOrT, dNotT, dAndV, dOrV, dNotV, dIfE, dChain, dTup, dLst, dSl, dPart, dNoPart, dgName, dgTup, dgCons, dgNil, dgSub, dAsg, dPar, dAug, dNeg, ends, fLt, fLe, fGt, fGe, fSub, fMod, fDiv, fPow, fAdd, fMul, iAddI, iSubI, ii, fInt, fMax2, fMin2, fLen, fTuple, fList, List.length_cons, List.length_nil, List.map_cons, List.map_nil, startD, List.replicate, List.cons_append, List.nil_append, List.append_nil, Nat.zero_add, Nat.reduceAdd, Nat.reduceSub, List.getElem?_cons_succ, List.getElem?_cons_zero, List.set_cons_zero, List.set_cons_succ, wipeD]
  refine ⟨by decide, ne_tI (b := []) ⟨fun hy => ?_, fun hy => ?_⟩⟩
  · have hyn : y ≠ [] := by simpa using hy
    refine ⟨p, x, y, rfl, .inr ⟨hp, ix, iy, hyn, ty, by omega, by omega, fun t r d => ⟨_, rfl, r.length, d.lt, rfl, y, r, rfl, rfl, iy, ty, d.ir, d.tr, ly, by have := d.lt; omega, cy, d.lc cx cy, fun e h1 h2 => dv e (d.dv hp0 h1 h2) h1⟩⟩⟩
  · have hyn : y = [] := by simpa using hy
    subst hyn
    refine ⟨by decide, eq_tI (b := []) ⟨fun hx => ?_, fun hx => ?_⟩⟩
    · have hxn : x = [] := by simpa using hx
      subst hxn
      obtain ⟨h1, h2⟩ := dv [] (.refl hp0 _) (.refl hp0 _)
      have ea := Dv.of_nil hp0 ia ta h1
      have eb := Dv.of_nil hp0 ib tb h2
      exact .here (q [] ⟨ix, tx, fun _ _ => rfl, fun z => absurd ⟨ea, eb⟩ z, h1, h2, cx, Nat.zero_le _⟩)
    · have hxn : x ≠ [] := by simpa using hx
      have hc := ix.at hp0 (x.length - 1)
      have hcn := tx.last hxn
      refine ⟨_, last_ix hxn, p, _, rfl, hp, by omega, hc.2, fun i i0 i1 hi => ?_⟩
      refine ⟨p, i, x, rfl, hp0, by omega, In.bd ix (by omega), by omega, .here (q _ ?_)⟩
      exact com_scaled hp ix tx hxn i0 i1 hi lx cx dv (.inr trivial)
end DL

set_option Elab.async false
set_option linter.all false
set_option maxRecDepth 100000
set_option maxHeartbeats 400000
namespace DL
open PySem PySem.Spec PyProof.Rows L2
open PySem.W (Frag)
variable [TB]

/-! ### classes by their names -/
inductive CN (X : Cx) : Expr → Str → V → Value → Prop where
  | own {x : Str} {C : Addr} {p : Pos} (hg : Gl X x) (hm : X.mg x = some (.ref C)) (hd : (x == ("__debug__" : Str)) = false) : CN X (.Name x p) x (.ref C) (.ref C)
  | blt {x : Str} {n : String} {p : Pos} (hg : Gl X x) (hm : X.mg x = none) (hv : bootBuiltins x = some (.type n)) (hn : x ≠ "__name__") (hd : (x == ("__debug__" : Str)) = false) : CN X (.Name x p) x (.ty n) (.type n)
theorem CN.pe {X : Cx} {e : Expr} {x : Str} {v : V} {u : Value} (h : CN X e x v u) (pn : List (Addr × Obj)) (xe : Value → Shared → Prop) : PE (X.tr pn xe) e (tC v) := by
  cases h with
  | own hg hm hd => exact pe_glob (X := X.tr pn xe) (v := .ref _) hg hm rfl hd
  | blt hg hm hv hn hd => exact pe_bltn (X := X.tr pn xe) (v := .ty _) hg hm hv rfl hn hd
theorem CN.rel {X : Cx} {e : Expr} {x : Str} {v : V} {u u' : Value} (h : CN X e x v u) (r : RelV v u') : u' = u := by
  cases h with
  | own => exact r
  | blt => exact r
theorem CN.val {X : Cx} {e : Expr} {x : Str} {v : V} {u : Value} (h : CN X e x v u) : X.mg x = some u ∨ (X.mg x = none ∧ bootBuiltins x = some u) := by
  cases h with
  | own hg hm hd => exact .inl hm
  | blt hg hm hv hn hd => exact .inr ⟨hm, hv⟩
/-- what isinstance says of an instance of n's, asked for c -/
structure IsaF (K : Frag) (mg : Str → Option Value) (n c : Str) (b : Bool) : Prop where
  ok : ∀ (D : Addr) (cv : Value), mg n = some (.ref D) → (mg c = some cv ∨ (mg c = none ∧ bootBuiltins c = some cv)) → PySem.W.kitOne K (.ref D) cv = some b
structure ExcF (K : Frag) (mg : Str → Option Value) (n : Str) : Prop where
  ok : ∃ D, mg n = some (.ref D) ∧ ExcC K D
section
variable {X : Cx} {a D : Addr} {oe : Obj}
theorem inst_at {pins : List (Addr × Obj)} {σ : L2.St} {H : Hp} {s : Shared} (hp : (a, oe) ∈ X.pn) (hz : Zc (.ref D) none oe) (hf : ∃ vs, oe.data = .fields vs) (I : Inv X pins σ H s) : PySem.W.InstAt s.heap a oe D none := by
  obtain ⟨hget, _⟩ := I.pin (a, oe) (List.mem_append.mpr (.inl hp))
  obtain ⟨vs, hv⟩ := hf
  obtain ⟨oc, od, oda, osl⟩ := oe
  obtain ⟨h1, h2⟩ := hz
  dsimp only at h1 h2 hv
  subst h1 h2 hv
  exact ⟨hget, rfl, rfl, trivial⟩
theorem call_is1 (hp : (a, oe) ∈ X.pn) (C : ExcC X.K D) (hz : Zc (.ref D) none oe) (hf : ∃ vs, oe.data = .fields vs) : CallR X (.builtin "isinstance") (rIsE X.K D a) := by
  intro pins s σ H xs us Q I r h
  obtain ⟨c, cv, b, rfl, hcv, e, q⟩ := h
  obtain ⟨u1, u2, rfl, r1, r2⟩ := vals2 r
  cases (show u1 = Value.ref a from r1)
  cases hcv _ r2
  exact PySem.W.kia_one (PySem.W.handS_kitx_exc C.hg C.hk C.hs C.hd C.ha C.hn C.ht C.hm) I.kIn (inst_at hp hz hf I) e (fun z => nomatch z) fun tk => ⟨.bl b, H, I.kept (t' := tk) fun _ _ z => z, rfl, q⟩
def rIsT (K : Frag) (D a : Addr) : List V → Hp → VK → Prop := fun xs H Q => ∃ (tp : Addr) (cs : List V) (ws : List Value) (b : Bool), xs = [.ref a, .ref tp] ∧ H tp = some (.tup cs) ∧ (∀ us, Vals cs us → us = ws) ∧ PySem.W.kitAny K (.ref D) ws = some b ∧ Q (.bl b) H
theorem call_isTup (hp : (a, oe) ∈ X.pn) (C : ExcC X.K D) (hz : Zc (.ref D) none oe) (hf : ∃ vs, oe.data = .fields vs) : CallR X (.builtin "isinstance") (rIsT X.K D a) := by
  intro pins s σ H xs us Q I r h
  obtain ⟨tp, cs, ws, b, rfl, hT, hcv, e, q⟩ := h
  obtain ⟨u1, u2, rfl, r1, r2⟩ := vals2 r
  cases (show u1 = Value.ref a from r1)
  cases (show u2 = Value.ref tp from r2)
  obtain ⟨_, its, rv, o, h1, h2, n, h3⟩ := (show ObjOk X.prog X.w H s.heap tp (.tup cs) from I.hok tp _ hT)
  have e3 := hcv _ rv
  subst e3
  obtain ⟨oc, od, dt, sl⟩ := o
  simp only at h2 h3
  subst h2 h3
  exact PySem.W.kia_tup (PySem.W.handS_kitx_exc C.hg C.hk C.hs C.hd C.ha C.hn C.ht C.hm) I.kIn (inst_at hp hz hf I) h1 e (fun z => nomatch z) fun tk => ⟨.bl b, H, I.tok tk, rfl, q⟩
end
/-- isinstance(e, C), e the exception that the suite holds (slot i) -/
def dIsE (i : Nat) (a : Addr) (b : Bool) : DTE := fun σ M Q _ => σ[i]? = some (some (.ref a)) ∧ Q (.bl b) M
/-- the exception of a suite is of class n, without own fields -/
structure Held (X : Cx) (a : Addr) (n : Str) : Prop where
  ex : ∃ (D : Addr) (oe : Obj), X.mg n = some (.ref D) ∧ (a, oe) ∈ X.pn ∧ Zc (.ref D) none oe ∧ ∃ vs, oe.data = .fields vs
section
variable {X : Cx} {a : Addr} {n c : Str} {i : Nat} {x : Str} {e1 : Expr} {v : V} {u : Value} {b : Bool} {p pe pos : Pos}
theorem de_is1 (hh : Held X a n) (F : ExcF X.K X.mg n) (T : IsaF X.K X.mg n c b) (cn : CN X e1 c v u) (hgi : Gl X "isinstance") (hmi : X.mg "isinstance" = none) (hN : X.N[i]? = some x := by rfl) (hv : Vis X.env.scope x := by first | exact Or.inl rfl | exact Or.inr (Or.inl rfl) | exact Or.inr (Or.inr rfl)) (hd : (x == ("__debug__" : Str)) = false := by decide) (hcd : (x == ("__classdict__" : Str)) = false := by decide)
    (hs : starEach [(.Name x pe : Expr), e1] X.env = (false, eval (.Name x pe) X.env) :: starEach [e1] X.env := by rfl) (hs2 : starEach [e1] X.env = (false, eval e1 X.env) :: starEach [] X.env := by rfl) (hpl : (backTo pos (starEach [e1] X.env)).any (·.1) = false := by rfl) :
    DE X (.Call (.Name "isinstance" p) [.Name x pe, e1] [] pos) (dIsE i a b) := by
  obtain ⟨D, oe, hm, hp, hz, hf⟩ := hh.ex
  obtain ⟨D', hm', C⟩ := F.ok
  rw [hm] at hm'
  cases hm'
  refine ⟨fun pn xe W tk => PE.weak (pe_callB (X := X.tr pn xe) (call_is1 (X := X.tr pn xe) (tk.sub _ hp) C hz hf) hgi hmi bb_isinstance (pa_cons (X := X.tr pn xe) (pe_var (X := X.tr pn xe) hN hv hd hcd) (pa_cons (X := X.tr pn xe) (cn.pe pn xe) pa_nil hs2) hs) (by decide) (by decide) hs hpl) ?_⟩
  rintro σ H Q ⟨σd, M, Qd, Ed, rs, rh, ⟨h1, h2⟩, hE, hQ⟩
  obtain ⟨w, e2, rv⟩ := rs.loc i _ h1
  cases rv
  exact ⟨_, e2, v, u, b, rfl, fun u' r => cn.rel r, T.ok _ _ hm cn.val, hQ _ _ _ _ .refl rh .bl h2⟩
theorem de_is2 {c2 : Str} {e2 : Expr} {v2 : V} {u2 : Value} {b2 : Bool} {k : Nat} {tp : Pos} (hh : Held X a n) (F : ExcF X.K X.mg n) (T : IsaF X.K X.mg n c b) (T2 : IsaF X.K X.mg n c2 b2) (cn : CN X e1 c v u) (cn2 : CN X e2 c2 v2 u2) (hgi : Gl X "isinstance") (hmi : X.mg "isinstance" = none) (hN : X.N[i]? = some x := by rfl) (hv : Vis X.env.scope x := by first | exact Or.inl rfl | exact Or.inr (Or.inl rfl) | exact Or.inr (Or.inr rfl)) (hd : (x == ("__debug__" : Str)) = false := by decide) (hcd : (x == ("__classdict__" : Str)) = false := by decide)
    (hs : starEach [(.Name x pe : Expr), .Tuple [e1, e2] k tp] X.env = (false, eval (.Name x pe) X.env) :: starEach [.Tuple [e1, e2] k tp] X.env := by rfl) (hs2 : starEach [(.Tuple [e1, e2] k tp : Expr)] X.env = (false, eval (.Tuple [e1, e2] k tp) X.env) :: starEach [] X.env := by rfl) (hpl : (backTo pos (starEach [(.Tuple [e1, e2] k tp : Expr)] X.env)).any (·.1) = false := by rfl)
    (hs3 : starEach [e1, e2] X.env = (false, eval e1 X.env) :: starEach [e2] X.env := by rfl) (hs4 : starEach [e2] X.env = (false, eval e2 X.env) :: starEach [] X.env := by rfl) :
    DE X (.Call (.Name "isinstance" p) [.Name x pe, .Tuple [e1, e2] k tp] [] pos) (dIsE i a (b || b2)) := by
  obtain ⟨D, oe, hm, hp, hz, hf⟩ := hh.ex
  obtain ⟨D', hm', C⟩ := F.ok
  rw [hm] at hm'
  cases hm'
  refine ⟨fun pn xe W tk => PE.weak (pe_callB (X := X.tr pn xe) (call_isTup (X := X.tr pn xe) (tk.sub _ hp) C hz hf) hgi hmi bb_isinstance (pa_cons (X := X.tr pn xe) (pe_var (X := X.tr pn xe) hN hv hd hcd) (pa_cons (X := X.tr pn xe) (pe_tup (pa_cons (X := X.tr pn xe) (cn.pe pn xe) (pa_cons (X := X.tr pn xe) (cn2.pe pn xe) pa_nil hs4) hs3)) pa_nil hs2) hs) (by decide) (by decide) hs hpl) ?_⟩
  rintro σ H Q ⟨σd, M, Qd, Ed, rs, rh, ⟨h1, h2⟩, hE, hQ⟩
  obtain ⟨w, e2, rv⟩ := rs.loc i _ h1
  cases rv
  have k1 := T.ok _ _ hm cn.val
  have k2 := T2.ok _ _ hm cn2.val
  refine ⟨_, e2, ⟨le_line (by show 2 ≤ 1000000; decide), fun q hq => ⟨q, [v, v2], [u, u2], b || b2, rfl, upd_same, fun us r => ?_, ?_, ?_⟩⟩⟩
  · obtain ⟨w1, w2, rfl, r1, r2⟩ := vals2 r
    rw [cn.rel r1, cn2.rel r2]
  · refine kitAny_cons k1 (fun hb => ?_) (fun hb => by rw [hb]; rfl)
    rw [hb, Bool.false_or]
    refine kitAny_cons k2 (fun hb => ?_) (fun hb => hb)
    rw [hb]; rfl
  · exact hQ _ _ _ _ (.new hq) (rh.new hq) .bl h2
end
/-! ### try: .. except X as e: .. -/
def dTryAs (n : Str) (i : Nat) (tb : DTS) (ts : Addr → DTS) : DTS := fun D σ M => tb { D with ex := fun x σ' M' => x = ⟨n, []⟩ ∧ ∀ a, M' a = none → ts a { nx := fun σ2 M2 => D.nx (σ2.set i none) M2, rt := D.rt, bk := fun σ2 M2 => D.bk (σ2.set i none) M2, ct := fun σ2 M2 => D.ct (σ2.set i none) M2 } (σ'.set i (some (.ref a))) M' } σ M
theorem RS.unset {K : Frag} {mg : Str → Option Value} {M : HM} {H : Hp} {σd : DSt} {σ : L2.St} (r : RS K mg M H σd σ) (i : Nat) : RS K mg M H (σd.set i none) (σ.set i none) := by
  refine ⟨fun j d h => ?_, by rw [List.length_set, List.length_set]; exact r.len⟩
  by_cases hj : i = j
  · subst hj
    rw [List.getElem?_set] at h
    split at h <;> (try split at h) <;> first | cases h | contradiction
  · rw [List.getElem?_set_ne hj] at h
    rw [List.getElem?_set_ne hj]
    exact r.loc j d h
theorem ds_tryAs {X : Cx} {x v : Str} {i : Nat} {body suite : List Stmt} {b₀ : Stmt} {np pos pos' : Pos} {tb : DTS} {ts : Addr → DTS} (hX : X.pn = []) (hs : X.stack = X.env :: X.outer) (hf : X.env.frame = some X.env.locals) (hN : X.N.Nodup) (hg : Gl X x) (T : XOwn X.K X.mg x) (hex : ∀ C, X.mg x = some (.ref C) → PySem.W.exmOne X.K (.ref C) (.ref C) = some true)
    (hb : DSs X body tb) (hsu : ∀ a oe pn, Held (X.suite a ((a, oe) :: pn)) a x → DSs (X.suite a ((a, oe) :: pn)) (b₀ :: suite) (ts a)) (hi : X.N[i]? = some v := by rfl) (hln : X.env.kindOf v = some .local := by rfl) (hdb : (x == ("__debug__" : Str)) = false := by decide) :
    DS X (.Try body [.ExceptHandler (some (.Name x np)) (some v) (b₀ :: suite) pos'] [] [] pos) (dTryAs x i tb ts) := by
  obtain ⟨C, _, _, _, _, _, _, gC, _, _, _⟩ := T.ex
  refine ⟨fun pn xe W tk po => PS.weak (ps_try_as (X := X.tr pn xe) (i := i) (c := .ref C) (tb := fun W => liftS X.K X.mg W tb) (ts := fun a cls d D σ H => (cls = .ref C ∧ d = none) ∧ liftS X.K X.mg (fun _ _ _ _ => False) (ts a) D σ H) hs hf hN hi hln ⟨hg, hdb, .inl gC⟩ tk.tk (fun W' pn' xe' tk' po' => hb.run pn' xe' W' ⟨tk', fun q z => by rw [hX] at z; exact nomatch z⟩ po')
    (fun a oe cls d pn' hz hf' => ⟨fun pins s σ H D I h => ?_⟩)) ?_⟩
  · obtain ⟨⟨rfl, rfl⟩, h⟩ := h
    exact ((hsu a oe pn' ⟨C, oe, gC, List.mem_cons_self, hz, hf'⟩).run ((a, oe) :: pn') (fun _ _ => False) (fun _ _ _ _ => False) ⟨takes0, fun _ z => z⟩ PassesOwn.never).run pins s σ H D I h
  · rintro σ H D ⟨σd, M, Dd, rs, rh, h, hD⟩
    refine ⟨σd, M, _, rs, rh, h, ⟨hD.nx, hD.rt, hD.bk, hD.ct, ?_⟩⟩
    rintro y σd' M' σ' H' cls dd e rh' rs' rx ⟨rfl, q⟩
    have hD' := hD.ext e
    have ec : cls = .ref C := by
      rcases rx.1 with h | ⟨h, _⟩
      · have h' : X.mg x = some cls := h
        rw [gC] at h'; exact (Option.some.inj h').symm
      · have h' : X.mg x = none := h
        rw [gC] at h'; cases h'
    have ed : dd = none := by
      have r2 := rx.2
      cases dd with
      | none => rfl
      | some b => exact absurd rfl r2.1
    subst ec ed
    refine ⟨true, hex C gC, fun _ a ha => ⟨⟨rfl, rfl⟩, ⟨_, M', _, rs'.set .ref i, rh', q a (strip_none (rh'.free ha)), ⟨?_, hD'.rt, ?_, ?_, fun _ _ _ _ _ _ _ _ _ _ _ z => z.elim⟩⟩⟩, fun z => nomatch z⟩
    · exact fun σ2 M2 σ3 H3 e3 rh3 rs3 q3 => hD'.nx _ _ _ _ e3 rh3 (rs3.unset i) q3
    · exact fun σ2 M2 σ3 H3 e3 rh3 rs3 q3 => hD'.bk _ _ _ _ e3 rh3 (rs3.unset i) q3
    · exact fun σ2 M2 σ3 H3 e3 rh3 rs3 q3 => hD'.ct _ _ _ _ e3 rh3 (rs3.unset i) q3
theorem bb_ValueError : bootBuiltins "ValueError" = some (.type "ValueError") := by decide +kernel
theorem bb_KeyError : bootBuiltins "KeyError" = some (.type "KeyError") := by decide +kernel
theorem bb_IndexError : bootBuiltins "IndexError" = some (.type "IndexError") := by decide +kernel
theorem xown_mk {K : Frag} {mg : Str → Option Value} {n : Str} {C : Addr} {bmB : List Value} {B newId initId : String} (F : ExcBaseFacts B newId initId bmB) (g : mg n = some (.ref C)) (x : PySem.W.excIn K C bmB newId = true) (k : PySem.W.keepIn K (.ref C) = true) (b : PySem.W.subIn K (.ref C) (.type "BaseException") = some true) (t : PySem.W.typeIn K (.ref C) = some (.type "type")) : XOwn K mg n :=
  ⟨⟨C, bmB, B, newId, initId, F, x, g, k, b, t⟩⟩
theorem hex_mk {K : Frag} {mg : Str → Option Value} {n : Str} {C : Addr} (g : mg n = some (.ref C)) (b : PySem.W.subIn K (.ref C) (.type "BaseException") = some true) (d : PySem.W.hasDictIn K C = true) (t : PySem.W.typeIn K (.ref C) = some (.type "type")) (s : PySem.W.subIn K (.ref C) (.ref C) = some true) : ∀ C', mg n = some (.ref C') → PySem.W.exmOne K (.ref C') (.ref C') = some true := by
  intro C' h
  rw [g] at h
  cases h
  exact PySem.W.exm_ref b d t s
theorem isaO_mk {K : Frag} {mg : Str → Option Value} {n c : Str} {C C2 : Addr} {b : Bool} (g : mg n = some (.ref C)) (g2 : mg c = some (.ref C2)) (h : PySem.W.kitOne K (.ref C) (.ref C2) = some b) : IsaF K mg n c b := ⟨fun D cv h1 h2 => by
  rw [g] at h1
  cases h1
  rcases h2 with h2 | ⟨h2, _⟩
  · rw [g2] at h2; cases h2; exact h
  · rw [g2] at h2; cases h2⟩
theorem isaB_mk {K : Frag} {mg : Str → Option Value} {n c : Str} {C : Addr} {T : String} {b : Bool} (g : mg n = some (.ref C)) (g2 : mg c = none) (bb : bootBuiltins c = some (.type T)) (h : PySem.W.kitOne K (.ref C) (.type T) = some b) : IsaF K mg n c b := ⟨fun D cv h1 h2 => by
  rw [g] at h1
  cases h1
  rcases h2 with h2 | ⟨_, h2⟩
  · rw [g2] at h2; cases h2
  · rw [bb] at h2; cases h2; exact h⟩
theorem kitO_mk {K : Frag} {C C2 : Addr} {b : Bool} (sc : PySem.W.subIn K (.ref C) (.ref C) = some true) (d : PySem.W.hasDictIn K C2 = true) (t : PySem.W.typeIn K (.ref C2) = some (.type "type")) (s : PySem.W.subIn K (.ref C) (.ref C2) = some b) : PySem.W.kitOne K (.ref C) (.ref C2) = some b := by
  unfold PySem.W.kitOne
  by_cases h : C = C2
  · subst h
    rw [s] at sc
    cases sc
    exact if_pos (beq_self_eq_true _)
  · rw [if_neg (fun z => h (Value.ref.inj (beq_iff_eq.mp z)))]
    obtain ⟨cd, hc, _⟩ := PySem.W.any_some d
    show (if ((PySem.W.clsIn K C2).isSome && PySem.W.typeIn K (.ref C2) == some (.type "type")) = true then PySem.W.subIn K (.ref C) (.ref C2) else none) = some b
    rw [hc, t]
    exact s
theorem kitB_mk {K : Frag} {C : Addr} {T : String} {b : Bool} (m : PySem.W.kitMeta T = true) (s : PySem.W.subIn K (.ref C) (.type T) = some b) : PySem.W.kitOne K (.ref C) (.type T) = some b := by
  unfold PySem.W.kitOne
  have hne : ¬ (Value.ref C == Value.type T) = true := fun z => by have e := beq_iff_eq.mp z; cases e
  rw [if_neg hne]
  show (if PySem.W.kitMeta T = true then PySem.W.subIn K (.ref C) (.type T) else none) = some b
  rw [if_pos m]
  exact s
end DL

set_option Elab.async false
set_option linter.all false
set_option maxRecDepth 100000
set_option maxHeartbeats 400000
namespace DL
open PySem PySem.Spec PyProof.Rows L2
open PySem.W (Frag)
variable [TB]
section
variable {X : Cx} {pos : Pos}
/-- a name of the module: a constant tuple -/
theorem de_globT {x : Str} {A : Addr} {ds : List D} {vs : List V} (hg : Gl X x) (hm : X.mg x = some (.ref A)) (hc : cT X.K A vs) (hr : ∀ M H, RVs X.K X.mg M H ds vs) (hd : (x == ("__debug__" : Str)) = false := by decide) : DE X (.Name x pos) (dC (.tup ds)) :=
  de_c (fun pn xe => pe_glob (X := X.tr pn xe) (v := .ref A) hg hm rfl hd) fun M H => .tup (.inr hc) (hr M H)
/-- a constant list -/
theorem de_globL {x : Str} {A : Addr} {ds : List D} {vs : List V} (hg : Gl X x) (hm : X.mg x = some (.ref A)) (hc : cL X.K A vs) (hr : ∀ M H, RVs X.K X.mg M H ds vs) (hd : (x == ("__debug__" : Str)) = false := by decide) : DE X (.Name x pos) (dC (.lsf ds)) :=
  de_c (fun pn xe => pe_glob (X := X.tr pn xe) (v := .ref A) hg hm rfl hd) fun M H => .lsf (.inr hc) (hr M H)
theorem rvs_ints {K : Frag} {mg : Str → Option Value} {M : HM} {H : Hp} : ∀ is : List Int, RVs K mg M H (is.map D.int) (is.map V.int)
  | [] => .nil
  | _ :: is => .cons .int (rvs_ints is)
def intsIs : List Int → List Value → Bool
  | [], [] => true
  | i :: is, .int j _ :: vs => i == j && intsIs is vs
  | _, _ => false
theorem intsIs_vals : ∀ {is : List Int} {us : List Value}, intsIs is us = true → Vals (is.map V.int) us
  | [], [], _ => .nil
  | i :: is, .int j t :: us, h => by
    obtain ⟨h1, h2⟩ := Bool.and_eq_true_iff.mp (show (i == j && intsIs is us) = true from h)
    have : i = j := by simpa using h1
    subst this
    exact .cons ⟨t, rfl⟩ (intsIs_vals h2)
theorem intsIs_len : ∀ {is : List Int} {us : List Value}, intsIs is us = true → us.length = is.length
  | [], [], _ => rfl
  | _ :: _, .int _ _ :: us, h => congrArg (· + 1) (intsIs_len (Bool.and_eq_true_iff.mp h).2)
/-- what the kit's facts say of a constant tuple of ints -/
theorem cT_ints {K : Frag} {A : Addr} {is : List Int} {od : Option Addr} {its : Array Value} {n : Nat} {sl : Array (Option Value)} (h : K.lookup A = some ⟨.type "tuple", od, .seq its n, sl⟩) (v : intsIs is its.toList = true) (l : is.length ≤ 1000) : cT K A (is.map V.int) :=
  ⟨_, its, n, h, rfl, rfl, by
    have := intsIs_len v
    have e : its.size = is.length := by rw [← this]; simp
    rw [e]
    exact Nat.le_trans l (by decide), intsIs_vals v⟩
/-- the module's name x stands for a tuple of ints that nobody changes -/
structure TupG (K : Frag) (mg : Str → Option Value) (x : Str) (is : List Int) : Prop where
  at_ : ∃ A, mg x = some (.ref A) ∧ cT K A (is.map V.int)
theorem tupG_mk {K : Frag} {mg : Str → Option Value} {x : Str} {A : Addr} {is : List Int} {od : Option Addr} {its : Array Value} {n : Nat} {sl : Array (Option Value)} (g : mg x = some (.ref A)) (h : K.lookup A = some ⟨.type "tuple", od, .seq its n, sl⟩) (v : intsIs is its.toList = true) (l : is.length ≤ 1000 := by decide) : TupG K mg x is :=
  ⟨A, g, cT_ints h v l⟩
theorem de_tupG {x : Str} {is : List Int} (t : TupG X.K X.mg x is) (hg : Gl X x) (hd : (x == ("__debug__" : Str)) = false := by decide) : DE X (.Name x pos) (dC (.tup (is.map D.int))) := by
  obtain ⟨A, g, c⟩ := t.at_
  exact de_globT hg g c (fun _ _ => rvs_ints is) hd
end
end DL

set_option Elab.async false
set_option linter.all false
set_option maxRecDepth 100000
set_option maxHeartbeats 400000
namespace DL
open PySem PySem.Spec PyProof.Rows L2
open PySem.W (Frag)
variable [TB]

/-! ### objects: fields -/
def objOf (M : HM) : D → Option (Str × List (Str × D))
  | .obj n fs => some (n, fs)
  | .ref a => (match M a with
    | some (.ins n fs) => some (n, fs)
    | _ => none)
  | _ => none
def putFD (f : Str) (d : D) : List (Str × D) → List (Str × D)
  | [] => [(f, d)]
  | (g, x) :: r => if g = f then (g, d) :: r else (g, x) :: putFD f d r
section
variable {K : Frag} {mg : Str → Option Value} {M : HM} {H : Hp}
theorem obj_of {d : D} {v : V} {n : Str} {fs : List (Str × D)} (rh : RH K mg M H) (r : RV K mg M H d v) (h : objOf (strip M) d = some (n, fs)) : ∃ a C dx vs, v = .ref a ∧ mg n = some (.ref C) ∧ H a = some (.ins C dx vs) ∧ RVf K mg M H fs vs := by
  cases r with
  | obj hc hm e r => cases h; exact ⟨_, _, _, _, rfl, hc, e, r⟩
  | @ref a =>
    unfold objOf at h
    dsimp only at h
    split at h
    · rename_i n' fs' e
      cases h
      obtain ⟨C, dx, vs, hc, e1, r⟩ := rh a _ (strip_some e)
      exact ⟨a, C, dx, vs, rfl, hc, e1, r⟩
    · cases h
  | _ => cases h
theorem RVf.get {f : Str} {d : D} : ∀ {fs : List (Str × D)} {vs : List (Str × V)}, RVf K mg M H fs vs → fs.lookup f = some d → ∃ v, vs.lookup f = some v ∧ RV K mg M H d v
  | _, _, .nil, h => nomatch h
  | _, _, @RVf.cons _ _ _ _ x d' v fs vs r rs, h => by
    rw [List.lookup_cons] at h ⊢
    split at h
    · rename_i e
      cases h
      exact ⟨v, rfl, r⟩
    · rename_i e
      exact RVf.get rs h
theorem RVf.nil_of {f : Str} : ∀ {fs : List (Str × D)} {vs : List (Str × V)}, RVf K mg M H fs vs → fs.lookup f = none → vs.lookup f = none
  | _, _, .nil, h => rfl
  | _, _, @RVf.cons _ _ _ _ x d' v fs vs r rs, h => by
    rw [List.lookup_cons] at h ⊢
    split at h
    · cases h
    · exact RVf.nil_of rs h
theorem RVf.put {f : Str} {d : D} {v : V} (rd : RV K mg M H d v) : ∀ {fs : List (Str × D)} {vs : List (Str × V)}, RVf K mg M H fs vs → RVf K mg M H (putFD f d fs) (putF f v vs)
  | _, _, .nil => .cons rd .nil
  | _, _, @RVf.cons _ _ _ _ x d' v' fs vs r rs => by
    unfold putFD putF
    by_cases e : x = f
    · rw [if_pos e, if_pos e]; exact .cons rd rs
    · rw [if_neg e, if_neg e]; exact .cons r (RVf.put rd rs)
theorem RVf.length : ∀ {fs : List (Str × D)} {vs : List (Str × V)}, RVf K mg M H fs vs → fs.length = vs.length
  | _, _, .nil => rfl
  | _, _, .cons _ rs => congrArg (· + 1) (RVf.length rs)
end
/-- f is a field of the class n: no class of its has the name -/
structure FldF (K : Frag) (mg : Str → Option Value) (n f : Str) : Prop where
  ok : ∃ C, mg n = some (.ref C) ∧ Cls K C ∧ NoAttr K C f
def dFld (n f : Str) (d : DTE) : DTE := fun σ M Q E => d σ M (fun x M1 => ∃ fs y, objOf M1 x = some (n, fs) ∧ fs.lookup f = some y ∧ Q y M1) E
def dFldSet (n f : Str) (dv dob : DTE) : DTS := fun D σ M => dv σ M (fun y M1 => dob σ M1 (fun x M2 => ∃ a fs, x = .ref a ∧ M2 a = some (.ins n fs) ∧ fs.length < 1000 ∧ D.nx σ (mup M2 a (.ins n (putFD f y fs)))) (fun x M => D.ex x σ M)) (fun x M => D.ex x σ M)
section
variable {X : Cx} {n f : Str} {e o value : Expr} {d dv dob : DTE} {pos pos' : Pos}
theorem de_fld (F : FldF X.K X.mg n f) (he : DE X e d) (hb : attributeBase e f X.env (eval e X.env) = eval e X.env := by rfl) : DE X (.Attribute e f pos) (dFld n f d) := by
  obtain ⟨C, hm, cl, na⟩ := F.ok
  refine ⟨fun pn xe W tk => PE.weak (pe_fld (X := X.tr pn xe) (he.run pn xe W tk) hb) ?_⟩
  rintro σ H Q ⟨σd, M, Qd, Ed, rs, rh, h, hE, hQ⟩
  refine ⟨σd, M, _, Ed, rs, rh, h, hE, fun x M1 v H1 e1 rh1 r1 ⟨fs, y, ho, hl, q⟩ => ?_⟩
  obtain ⟨a, C', dx, vs, rfl, hc, ha, rf⟩ := obj_of rh1 r1 ho
  rw [hm] at hc
  cases hc
  obtain ⟨u, hu, ru⟩ := rf.get hl
  exact ⟨a, C, dx, vs, u, rfl, ha, cl, na, hu, hQ _ _ _ _ e1 rh1 ru q⟩
theorem ds_fld (F : FldF X.K X.mg n f) (ho : DE X o dob) (hv : DE X value dv) (hs : swapsWith value (some (.Attribute o f pos')) pos.line X.env = pure false := by rfl) : DS X (.Assign [.Attribute o f pos'] value pos) (dFldSet n f dv dob) := by
  obtain ⟨C, hm, cl, na⟩ := F.ok
  refine ⟨fun pn xe W tk po => PS.weak (ps_fld (X := X.tr pn xe) (ho.run pn xe W tk) (hv.run pn xe W tk) hs) ?_⟩
  rintro σ H D ⟨σd, M, Dd, rs, rh, h, hD⟩
  refine ⟨σd, M, _, _, rs, rh, h, hD.ex.he rs, fun y M1 v H1 e1 rh1 r1 q1 => ?_⟩
  refine ⟨σd, M1, _, _, rs.ext e1, rh1, q1, (hD.ext e1).ex.he (rs.ext e1), fun x M2 u H2 e2 rh2 r2 ⟨a, fs, ex, hma, hl, q2⟩ => ?_⟩
  subst ex
  cases r2
  have hb := strip_some hma
  obtain ⟨C', dx, vs, hc, ha, rf⟩ := rh2 a _ hb
  rw [hm] at hc
  cases hc
  have nn : M2 a ≠ none := by rw [hb]; simp
  have nm : shy (M2 a) = false := by rw [hb]; rfl
  have nh : shy (some (MO.ins n (putFD f y fs))) = false := rfl
  have ex : Ext M2 H2 (mup M2 a (.ins n (putFD f y fs))) (upd H2 a (.ins C dx (putF f v vs))) := Ext.wr nn nm nh
  refine ⟨a, C, dx, vs, rfl, ha, cl, na, by rw [← rf.length]; exact hl, ?_⟩
  have e12 := e1.trans e2
  exact hD.nx _ _ _ _ (e12.trans ex) (rh2.wr nn nm nh ⟨C, dx, putF f v vs, hm, upd_same, RVf.put ((r1.ext e2).ext ex) (rf.ext ex)⟩) ((rs.ext e12).ext ex) (by rw [strip_mup nh]; exact q2)
end
/-! ### a def of a class -/
section
variable {X : Cx} {k : Nat} {f : Addr} {fd : FuncData} {ps : List Str} {sp : Sp} {x m : Str} {p pos apos : Pos} {e o : Expr} {es : List Expr} {ta : TE} {t : TA} {C : Addr} {ds : List Value} {dvs : List V}
/-- the callee runs somewhere below the running body -/
theorem run_fnA {A : Around} {pins : List (Addr × Obj)} {σ : L2.St} {H : Hp} {s : Shared} {Q : VK} {us : List Value} {vs : List V} {E : XK} (F : FnG X.prog X.w X.K X.mg X.base k f fd ps sp) (hr : Room k A) (hG : A.guards = some []) (hf : A.frames = X.A.frames) (hb : Binds X.K fd ps ds) (hd : Vals dvs ds)
    (hx : PassesAt (L2.CX X.prog X.w) X σ E) (I : Inv X pins σ H s) (r : Vals vs us) (h : sp (vs ++ dvs) H Q E) : codeAny (model X.prog X.w) A (.call (.ref f) ⟨us, []⟩) (fun r s' => match r with | .ok (.ret v) => EP X pins σ Q v s' | .ok _ => False | .error e => X.xe e s') s := by
  have r2 : Vals (vs ++ dvs) (us ++ ds) := r.append hd
  have hl : (us ++ ds).length = ps.length := by rw [← r2.length]; exact F.len _ _ _ _ h
  have e0 := I.env0
  refine codeAny_mono (F.run A X.stack s H ⟨us, []⟩ (us ++ ds) (vs ++ dvs) Q E hr hG ⟨by rw [hf]; exact e0.frames, e0.mod, e0.bs, e0.bsz, e0.funs, e0.frf, e0.hok, e0.bare⟩ (hb s us I.kIn hl) r2 h) fun r s' z => ?_
  cases r with
  | error e => exact hx pins H s e s' I z
  | ok fl =>
    cases fl with
    | ret u => exact I.after z
    | _ => exact z.elim
theorem call_fnA {A : Around} {pins : List (Addr × Obj)} {σ : L2.St} {H : Hp} {s : Shared} {Q : VK} {us : List Value} {vs : List V} {E : XK} (F : FnG X.prog X.w X.K X.mg X.base k f fd ps sp) (hr : Room k A) (hG : A.guards = some []) (hf : A.frames = X.A.frames) (hb : Binds X.K fd ps ds) (hd : Vals dvs ds)
    (hx : PassesAt (L2.CX X.prog X.w) X σ E) (I : Inv X pins σ H s) (r : Vals vs us) (h : sp (vs ++ dvs) H Q E) : wpAny (model X.prog X.w) A (call (.ref f) us) (EP X pins σ Q) X.xe s := by
  refine wpAny_call (codeAny_mono (run_fnA F hr hG hf hb hd hx I r h) fun r s' z => ?_)
  cases r with
  | error e => exact z
  | ok fl =>
    cases fl with
    | ret u => exact z
    | _ => exact z.elim
def tMethG (C : Addr) (m : Str) (sp : Sp) (dvs : List V) (E : L2.St → XK) (ta : TE) (t : TA) : TE := fun σ H Q => ta σ H fun x H1 => ∃ a dx fs, x = .ref a ∧ H1 a = some (.ins C dx fs) ∧ fs.lookup m = none ∧
  t σ H1 fun vs H2 => sp (x :: (vs ++ dvs)) H2 Q (E σ)
theorem pe_methG {E : L2.St → XK} {pl : Sem Bool} (he : PE X o ta) (c : Cls X.K C) (hm : Meth X.K C m f) (F : FnG X.prog X.w X.K X.mg X.base k f fd ps sp) (hr : Room k X.A) (hG : X.A.guards = some []) (hb : Binds X.K fd ps ds) (hd : Vals dvs ds) (hx : ∀ σ, PassesAt (L2.CX X.prog X.w) X σ (E σ)) (ha : PA X (e :: es) t)
    (hst : starEach (e :: es) X.env = (false, eval e X.env) :: starEach es X.env) (hpl : (backTo pos (starEach es X.env)).any (·.1) = false)
    (ht : eval (.Call (.Attribute o m apos) (e :: es) [] pos) X.env = (do
      let ov ← eval o X.env
      standAt apos.atName
      let (f, first) ← holding [ov] (getMethod ov m pl)
      callWith pos f first (backTo pos (starEach (e :: es) X.env)) (backToKw pos (keywordEach [] X.env)))) :
    PE X (.Call (.Attribute o m apos) (e :: es) [] pos) (tMethG C m sp dvs E ta t) := by
  refine ⟨fun pins s σ H Q I h => ?_⟩
  refine PySem.W.methodCall_KW (pl := pl) (thn (he.run pins s σ H _ I h) fun u s1 ⟨x, H1, I1, rx, a, dx, fs, ex, ea, l, q⟩ => ?_) ht
  subst ex
  obtain rfl : u = Value.ref a := rx
  refine getmeth_ok I1 ea c hm l ?_
  refine PySem.W.callWith_K (first := [.ref a]) (h₀ := X.base) I.ok.mod.kin hm.kp (thn (ha.run pos pins s1 σ H1 _ I1 q) fun us s2 ⟨vs, H2, I2, r, q2⟩ => ⟨I2.kIn, ?_⟩) hst hpl
  exact call_fnA (us := .ref a :: us) (vs := .ref a :: vs) F hr hG rfl hb hd (hx σ) I2 (.cons rfl r) q2
theorem pe_methG0 {E : L2.St → XK} {pl : Sem Bool} (he : PE X o ta) (c : Cls X.K C) (hm : Meth X.K C m f) (F : FnG X.prog X.w X.K X.mg X.base k f fd ps sp) (hr : Room k X.A) (hG : X.A.guards = some []) (hb : Binds X.K fd ps ds) (hd : Vals dvs ds) (hx : ∀ σ, PassesAt (L2.CX X.prog X.w) X σ (E σ))
    (ht : eval (.Call (.Attribute o m apos) [] [] pos) X.env = (do
      let ov ← eval o X.env
      standAt apos.atName
      let (f, first) ← holding [ov] (getMethod ov m pl)
      callWith pos f first (backTo pos (starEach [] X.env)) (backToKw pos (keywordEach [] X.env)))) :
    PE X (.Call (.Attribute o m apos) [] [] pos) (tMethG C m sp dvs E ta tNil) := by
  refine ⟨fun pins s σ H Q I h => ?_⟩
  refine PySem.W.methodCall_KW (pl := pl) (thn (he.run pins s σ H _ I h) fun u s1 ⟨x, H1, I1, rx, a, dx, fs, ex, ea, l, q⟩ => ?_) ht
  subst ex
  obtain rfl : u = Value.ref a := rx
  refine getmeth_ok I1 ea c hm l ?_
  exact PySem.W.callWith_K0 (first := [.ref a]) I1.kIn hm.kp (call_fnA (us := [.ref a]) (vs := [.ref a]) F hr hG rfl hb hd (hx σ) I1 (.cons rfl .nil) q)
/-! ### making -/
theorem make_guards {A : Around} {C : Addr} {us : List Value} {kw : List (Str × Value)} : (A.under (.builtin "type.__call__" ⟨.ref C :: us, kw⟩)).guards = A.guards := by
  first | rfl | simp [Around.under, Code.isGuard, guardIds]
theorem make_frames {A : Around} {C : Addr} {us : List Value} {kw : List (Str × Value)} : (A.under (.builtin "type.__call__" ⟨.ref C :: us, kw⟩)).frames = A.frames := by
  first | rfl | simp [Around.under, Code.envs, Code.isFrame, pushEnvs]
def tMakeG (C : Addr) (sp : Sp) (dvs : List V) (E : L2.St → XK) (t : TA) : TE := fun σ H Q => t σ H fun vs H1 => ∀ x dx, H1 x = none → H1 dx = none → dx ≠ x →
  sp (.ref x :: (vs ++ dvs)) (upd (upd H1 dx (.own x)) x (.ins C dx [])) (fun v H2 => v = .non ∧ Q (.ref x) H2) (E σ)
theorem run_makeG {pins : List (Addr × Obj)} {σ : L2.St} {H : Hp} {s : Shared} {Q : VK} {us : List Value} {vs : List V} {E : XK} (M : Mk X.K C f) (F : FnG X.prog X.w X.K X.mg X.base k f fd ps sp) (hr : Room (k + 1) X.A) (hG : X.A.guards = some []) (hb : Binds X.K fd ps ds) (hd : Vals dvs ds)
    (hx : PassesAt (L2.CX X.prog X.w) X σ E) (I : Inv X pins σ H s) (r : Vals vs us)
    (h : ∀ x dx, H x = none → H dx = none → dx ≠ x → sp (.ref x :: (vs ++ dvs)) (upd (upd H dx (.own x)) x (.ins C dx [])) (fun v H2 => v = .non ∧ Q (.ref x) H2) E) :
    wpAny (model X.prog X.w) X.A (call (.ref C) us) (EP X pins σ Q) X.xe s := by
  have hq := h (s.heap.objs.size + 1) s.heap.objs.size (I.hok.fresh (Nat.le_succ _)) (I.hok.fresh (Nat.le_refl _)) (Nat.ne_of_lt (Nat.lt_succ_self _))
  have I2 := Inv.made (C := C) I
  refine wpAny_call (make_map (f := f) I.kIn M.makes M.init (beq_iff_eq.mp M.fn) (codeAny_mono (run_fnA (us := Value.ref (s.heap.objs.size + 1) :: us) (vs := V.ref (s.heap.objs.size + 1) :: vs) F (hr.make C us []) (make_guards.trans hG) make_frames hb hd hx I2 (.cons rfl r) hq) fun r s' hq' => ?_))
  cases r with
  | error e => exact hq'
  | ok fl =>
    cases fl with
    | ret u =>
      obtain ⟨v, H', I3, rv, ev, q3⟩ := hq'
      subst ev
      exact ⟨rv, ⟨V.ref (s.heap.objs.size + 1), H', I3, rfl, q3⟩⟩
    | next => exact False.elim hq'
    | brk => exact False.elim hq'
    | cont => exact False.elim hq'
theorem pe_makeG {E : L2.St → XK} (M : Mk X.K C f) (F : FnG X.prog X.w X.K X.mg X.base k f fd ps sp) (hr : Room (k + 1) X.A) (hG : X.A.guards = some []) (hg : Gl X x) (hm : X.mg x = some (.ref C)) (hb : Binds X.K fd ps ds) (hd : Vals dvs ds) (hx : ∀ σ, PassesAt (L2.CX X.prog X.w) X σ (E σ))
    (ha : PA X (e :: es) t) (hdb : (x == ("__debug__" : Str)) = false) (he : starEach (e :: es) X.env = (false, eval e X.env) :: starEach es X.env) (hpl : (backTo pos (starEach es X.env)).any (·.1) = false) :
    PE X (.Call (.Name x p) (e :: es) [] pos) (tMakeG C sp dvs E t) := by
  refine ⟨fun pins s σ H Q I h => ?_⟩
  refine wpAny_Call_Name_kw (ld_glob I hg hm ?_ hdb)
  refine PySem.W.callWith_K (h₀ := X.base) I.ok.mod.kin M.kp (thn (ha.run pos pins s σ H _ I h) fun us s1 ⟨vs, H1, I1, r, q⟩ => ⟨I1.kIn, ?_⟩) he hpl
  exact run_makeG M F hr hG hb hd (hx σ) I1 r q
end
/-- a method m of the class n -/
structure MFn (P : Program) (w : World) (K : Frag) (mg : Str → Option Value) (base : Heap) (n m : Str) (ps : List Str) (k : Nat) (dvs : List D) (sp : DSp) : Prop where
  ex : ∃ C f fd vs ds, mg n = some (.ref C) ∧ Cls K C ∧ Meth K C m f ∧ Vals vs ds ∧ (∀ M H, RVs K mg M H dvs vs) ∧ Binds K fd ps ds ∧ FnG P w K mg base k f fd ps (liftSp K mg sp)
def dMeth (n m : Str) (sp : DSp) (dvs : List D) (d : DTE) (r : DTA) : DTE := fun σ M Q E => d σ M (fun x M1 => ∃ fs, objOf M1 x = some (n, fs) ∧ fs.lookup m = none ∧ r σ M1 (fun xs M2 => sp (x :: (xs ++ dvs)) M2 Q E) E) E
/-- the class n is made by its __init__ -/
structure IFn (P : Program) (w : World) (K : Frag) (mg : Str → Option Value) (base : Heap) (n : Str) (ps : List Str) (k : Nat) (dvs : List D) (sp : DSp) : Prop where
  ex : ∃ C f fd vs ds, mg n = some (.ref C) ∧ Mk K C f ∧ Vals vs ds ∧ (∀ M H, RVs K mg M H dvs vs) ∧ Binds K fd ps ds ∧ FnG P w K mg base k f fd ps (liftSp K mg sp)
def dMake (n : Str) (sp : DSp) (dvs : List D) (r : DTA) : DTE := fun σ M Q E => r σ M (fun xs M1 => ∀ a, M1 a = none → sp (.ref a :: (xs ++ dvs)) (mup M1 a (.ins n [])) (fun v M2 => v = .non ∧ RetK Q (.ref a) M2) E) E
section
variable {X : Cx} {n m : Str} {ps : List Str} {k : Nat} {dvs : List D} {sp : DSp} {e o : Expr} {es : List Expr} {d : DTE} {r : DTA} {p pos apos : Pos}
theorem de_meth {pl : Sem Bool} (F : MFn X.prog X.w X.K X.mg X.base n m ps k dvs sp) (hr : Room k X.A) (hG : X.A.guards = some []) (ho : DE X o d) (ha : DA X (e :: es) r)
    (hst : starEach (e :: es) X.env = (false, eval e X.env) :: starEach es X.env := by rfl) (hpl : (backTo pos (starEach es X.env)).any (·.1) = false := by rfl)
    (ht : eval (.Call (.Attribute o m apos) (e :: es) [] pos) X.env = (do
      let ov ← eval o X.env
      standAt apos.atName
      let (f, first) ← holding [ov] (getMethod ov m pl)
      callWith pos f first (backTo pos (starEach (e :: es) X.env)) (backToKw pos (keywordEach [] X.env))) := by rfl) :
    DE X (.Call (.Attribute o m apos) (e :: es) [] pos) (dMeth n m sp dvs d r) := by
  obtain ⟨C, f, fd, vs0, ds, hm, cl, mt, hd, hrv, hb, G⟩ := F.ex
  refine ⟨fun pn xe W tk => PE.weak (pe_methG (X := X.tr pn xe) (E := WE W) (pl := pl) (ho.run pn xe W tk) cl mt G hr hG hb hd (fun σ => passAt tk.tk σ) (ha.run pn xe W tk) hst hpl ht) ?_⟩
  rintro σ H Q ⟨σd, M, Qd, Ed, rs, rh, h, hE, hQ⟩
  refine ⟨σd, M, _, Ed, rs, rh, h, hE, fun x M1 v H1 e1 rh1 r1 ⟨fs, hob, hl, q1⟩ => ?_⟩
  obtain ⟨a, C', dx, vs, rfl, hc, hea, rf⟩ := obj_of rh1 r1 hob
  rw [hm] at hc
  cases hc
  refine ⟨a, dx, vs, rfl, hea, rf.nil_of hl, ?_⟩
  refine ⟨σd, M1, _, Ed, rs.ext e1, rh1, q1, hE.ext e1, fun xs M2 ws H2 e2 rh2 r2 q2 => ?_⟩
  exact ⟨_, M2, Qd, Ed, .cons (r1.ext e2) (r2.append (hrv M2 H2)), rh2, q2, (hQ.ext e1).ext e2, fun x M' H' cls dd e' rh' rx q => hE x M' H' cls dd ((e1.trans e2).trans e') rh' rx q⟩
theorem de_meth0 {pl : Sem Bool} (F : MFn X.prog X.w X.K X.mg X.base n m ps k dvs sp) (hr : Room k X.A) (hG : X.A.guards = some []) (ho : DE X o d)
    (ht : eval (.Call (.Attribute o m apos) [] [] pos) X.env = (do
      let ov ← eval o X.env
      standAt apos.atName
      let (f, first) ← holding [ov] (getMethod ov m pl)
      callWith pos f first (backTo pos (starEach [] X.env)) (backToKw pos (keywordEach [] X.env))) := by rfl) :
    DE X (.Call (.Attribute o m apos) [] [] pos) (dMeth n m sp dvs d dNil) := by
  obtain ⟨C, f, fd, vs0, ds, hm, cl, mt, hd, hrv, hb, G⟩ := F.ex
  refine ⟨fun pn xe W tk => PE.weak (pe_methG0 (X := X.tr pn xe) (E := WE W) (pl := pl) (ho.run pn xe W tk) cl mt G hr hG hb hd (fun σ => passAt tk.tk σ) ht) ?_⟩
  rintro σ H Q ⟨σd, M, Qd, Ed, rs, rh, h, hE, hQ⟩
  refine ⟨σd, M, _, Ed, rs, rh, h, hE, fun x M1 v H1 e1 rh1 r1 ⟨fs, hob, hl, q1⟩ => ?_⟩
  obtain ⟨a, C', dx, vs, rfl, hc, hea, rf⟩ := obj_of rh1 r1 hob
  rw [hm] at hc
  cases hc
  refine ⟨a, dx, vs, rfl, hea, rf.nil_of hl, ?_⟩
  exact ⟨_, M1, Qd, Ed, .cons r1 (hrv M1 H1), rh1, q1, hQ.ext e1, fun x M' H' cls dd e' rh' rx q => hE x M' H' cls dd (e1.trans e') rh' rx q⟩
theorem de_make (F : IFn X.prog X.w X.K X.mg X.base n ps k dvs sp) (hr : Room (k + 1) X.A) (hG : X.A.guards = some []) (hg : Gl X n) (ha : DA X (e :: es) r) (hdb : (n == ("__debug__" : Str)) = false := by decide)
    (he : starEach (e :: es) X.env = (false, eval e X.env) :: starEach es X.env := by rfl) (hpl : (backTo pos (starEach es X.env)).any (·.1) = false := by rfl) : DE X (.Call (.Name n p) (e :: es) [] pos) (dMake n sp dvs r) := by
  obtain ⟨C, f, fd, vs0, ds, hm, mk, hd, hrv, hb, G⟩ := F.ex
  refine ⟨fun pn xe W tk => PE.weak (pe_makeG (X := X.tr pn xe) (E := WE W) mk G hr hG hg hm hb hd (fun σ => passAt tk.tk σ) (ha.run pn xe W tk) hdb he hpl) ?_⟩
  rintro σ H Q ⟨σd, M, Qd, Ed, rs, rh, h, hE, hQ⟩
  refine ⟨σd, M, _, Ed, rs, rh, h, hE, fun xs M1 vs H1 e1 rh1 r1 q1 x dx hx hdx hne => ?_⟩
  have ea : Ext M1 H1 M1 (upd H1 dx (.own x)) := Ext.new hdx
  have rha := rh1.new (o := .own x) hdx
  have hx2 : upd H1 dx (.own x) x = none := by rw [upd_ne (Ne.symm hne)]; exact hx
  have nh : shy (some (MO.ins n [])) = false := rfl
  have eb : Ext M1 (upd H1 dx (.own x)) (mup M1 x (.ins n [])) (upd (upd H1 dx (.own x)) x (.ins C dx [])) := Ext.newM hx2 (rha.free hx2) nh
  have rhb := rha.newM (u := .ins n []) (o := .ins C dx []) hx2 nh ⟨C, dx, [], hm, upd_same, .nil⟩
  have ec := ea.trans eb
  have q := q1 x (strip_none (rh1.free hx))
  have hQ2 : HQ X.K X.mg (mup M1 x (.ins n [])) (upd (upd H1 dx (.own x)) x (.ins C dx [])) (fun v M2 => v = .non ∧ RetK Qd (.ref x) M2) (fun v H2 => v = .non ∧ Q (.ref x) H2) := by
    rintro r' M' v H' e' rh' rv ⟨hv, r2, M2, fz, q'⟩
    subst hv
    cases rv
    obtain ⟨B, eB, x1, rh2, rv2⟩ := fz_rel fz rfl (.ref (a := x)) rh'
    exact ⟨rfl, (hQ.ext e1) _ _ _ _ ((ec.trans e').trans x1) rh2 rv2 (by rw [eB]; exact q')⟩
  exact ⟨_, mup M1 x (.ins n []), _, Ed, .cons .ref ((r1.append (hrv _ _)).ext ec), rhb, by rw [strip_mup nh]; exact q, hQ2, fun y M' H' cls dd e' rh' rx q => hE y M' H' cls dd ((e1.trans ec).trans e') rh' rx q⟩
end
end DL

set_option Elab.async false
set_option linter.all false
set_option maxRecDepth 100000
set_option maxHeartbeats 400000
namespace DL
open PySem PySem.Spec PyProof.Rows L2
open PySem.W (Frag)
variable [TB]

/-! ### == and != by a class's own == -/
section
variable {prog : Program} {w : World} {A : Around} {E : Value → Shared → Prop} {s : Shared} {K : Frag} {x C f : Addr} {ox : Obj} {od : Option Obj} {b tb : Value}
theorem ifBound_bi {M : Model} {name : Str} {id : String} {args : List Value} {Q : Option Value → Shared → Prop} (X : K.In s.heap) (I : PySem.W.InstAt s.heap x ox C od) (hs : PySem.W.findIn K (.ref C) name = some (some (.builtin id)))
    (hbi : ∀ self, bindSpecial (.builtin id) self = pure (.builtin id, [self])) (h : wpAny M A (call (.builtin id) (.ref x :: args)) (fun v => Q (some v)) E s) : wpAny M A (callSpecialIfBound? (.ref x) name args) Q E s := by
  simp only [callSpecialIfBound?, bindSpecialIfBound?]
  refine wpAny_holding (wpAny_bind (wpAny_bind (wpAny_bind (I.type.here ((PySem.W.looks_findIn X hs).here ?_)))))
  refine wpAny_bind (wpAny_askSetting (wpAny_ite ?_))
  have fin : wpAny M A (call (.builtin id) ([.ref x] ++ args) >>= fun v => pure (some v)) Q E s := wpAny_bind (wpAny_mono h (fun v s' h' => wpAny_pure h') fun _ _ h' => h')
  split
  · exact wpAny_bind (wpAny_of_eq (hbi _) (wpAny_pure (by exact fin)))
  · exact wpAny_tryCatch (wpAny_bind (wpAny_of_eq (hbi _) (wpAny_pure (by exact fin))))
theorem objNe_entry (X : K.In s.heap) (I : PySem.W.InstAt s.heap x ox C od) (hu : A.units < cLine) (hs : PySem.W.findIn K (.ref C) "__eq__" = some (some (.ref f))) (hf : PySem.W.isFn K (.ref f) = true) {Q : Fin → Shared → Prop}
    (h : wpAny (model prog w) A (call (.ref f) [.ref x, b]) (fun v s' => ∃ c, v = .bool c ∧ Q (.done (.ret (.bool (!c)))) s') E s) : wpAny (model prog w) A (Builtin.«object.__ne__» ⟨[.ref x, b], []⟩) Q E s := by
  unfold Builtin.«object.__ne__»
  repeat (first
    | with_reducible refine wpAny_cRoomFor hu ?_
    | (refine wpAny_bind (m := callSpecialIfBound? (.ref x) (Str.ofString "__eq__") [b])
        (PySem.W.ifBound_K X I hs hf (wpAny_mono h (fun r s' hr => by
          obtain ⟨c, rfl, hq⟩ := hr
          repeat (first | exact hq | exact wpAny_pure hq | exact wpAny_truthy_bool hq | (refine wpAny_bind (m := truthy (.bool _)) (wpAny_truthy_bool ?_)) | wp_step)) fun _ _ e => e)))
    | wp_step)
theorem ne_own {Q : Value → Shared → Prop} (hu : A.units + 1 < cLine) (X : K.In s.heap) (I : PySem.W.InstAt s.heap x ox C od) (hb : PySem.W.Looks (model prog w) s.heap (typeOf b) tb) (hn : PySem.W.notFirst K C tb = true)
    (hs : PySem.W.findIn K (.ref C) "__eq__" = some (some (.ref f))) (hf : PySem.W.isFn K (.ref f) = true) (hne : PySem.W.findIn K (.ref C) "__ne__" = some (some (.builtin "object.__ne__"))) (hm : PySem.W.mroIn K C (.type "object") = some true)
    (h : wpAny (model prog w) A.in1 (call (.ref f) [.ref x, b]) (fun v s' => ∃ c, v = .bool c ∧ Q (.bool (!c)) s') E s) : wpAny (model prog w) A (richCompare .NotEq (.ref x) b) Q E s := by
  have hu' : A.in1.units < cLine := hu
  have hc : wpAny (model prog w) A (call (.builtin "object.__ne__") [.ref x, b]) (fun v s' => ∃ c, v = .bool (!c) ∧ Q (.bool (!c)) s') E s :=
    wpAny_call (codeAny_call_builtin PySem.F.cmp_object.ne.plain PySem.F.cmpEntry_ne (PySem.W.check_slot PySem.F.cmpKind_ne PySem.F.cmpSplit_ne (I.type.andThen (PySem.W.looks_mroIn X hm)) (PySem.F.cmpArgs_ne _ _)
      (objNe_entry X I hu' hs hf (wpAny_mono h (fun v s' hv => by
        obtain ⟨c, rfl, hq⟩ := hv
        exact ⟨c, rfl, ⟨c, rfl, hq⟩⟩) fun _ _ e => e))))
  have one : wpAny (model prog w) A (tryCompare (.ref x) "__ne__" b) (fun r s' => ∃ v, r = some v ∧ Q v s') E s := by
    unfold tryCompare
    refine wpAny_bind (ifBound_bi X I hne (fun self => PySem.F.cmp_object.ne.bind self) (wpAny_mono hc (fun v s' hv => ?_) fun _ _ e => e))
    obtain ⟨c, rfl, hq⟩ := hv
    exact wpAny_pure ⟨_, rfl, hq⟩
  unfold richCompare
  simp only [oneThing_ref]
  refine wpAny_holding (wpAny_bind (wpAny_cRoomFor (Nat.lt_of_succ_lt hu) ?_))
  refine wpAny_bind (I.type.here (wpAny_bind (hb.here ?_)))
  split
  · rename_i q
    have e : PySem.W.subIn K tb (.ref C) = some false := by
      rcases Bool.or_eq_true_iff.mp hn with e | e
      · rw [beq_iff_eq.mp e] at q; simp at q
      · exact beq_iff_eq.mp e
    refine wpAny_bind ((PySem.W.looks_subIn X e).here ?_)
    simp only [Bool.false_eq_true, if_false]
    refine wpAny_bind (wpAny_mono one (fun r s' z => ?_) fun _ _ e => e)
    obtain ⟨v, rfl, hq⟩ := z
    exact wpAny_pure hq
  · refine wpAny_bind (wpAny_pure ?_)
    simp only [Bool.false_eq_true, if_false]
    refine wpAny_bind (wpAny_mono one (fun r s' z => ?_) fun _ _ e => e)
    obtain ⟨v, rfl, hq⟩ := z
    exact wpAny_pure hq
end
/-- the class n has its own == -/
structure EqF (P : Program) (w : World) (K : Frag) (mg : Str → Option Value) (base : Heap) (n : Str) (ps : List Str) (k : Nat) (sp : DSp) : Prop where
  ex : ∃ C f fd, mg n = some (.ref C) ∧ PySem.W.findIn K (.ref C) "__eq__" = some (some (.ref f)) ∧ PySem.W.isFn K (.ref f) = true ∧ PySem.W.findIn K (.ref C) "__ne__" = some (some (.builtin "object.__ne__")) ∧ PySem.W.mroIn K C (.type "object") = some true ∧
    Binds K fd ps [] ∧ FnG P w K mg base k f fd ps (liftSp K mg sp)
/-- what may stand on the other side -/
def othD (n : Str) (M : HM) (y : D) : Prop := (∃ t, tyOf M y = some t) ∨ ∃ fs, objOf M y = some (n, fs)
def fEqO (n : Str) (sp : DSp) : DO2 := fun x y M Q => match objOf M x with
  | some (n', _) => n' = n ∧ othD n M y ∧ sp [x, y] M (fun r M1 => ∃ b, r = .bl b ∧ Q (.bl b) M1) (fun _ _ => False)
  | none => fEq x y M Q
def fNeO (n : Str) (sp : DSp) : DO2 := fun x y M Q => match objOf M x with
  | some (n', _) => n' = n ∧ othD n M y ∧ sp [x, y] M (fun r M1 => ∃ b, r = .bl b ∧ Q (.bl (!b)) M1) (fun _ _ => False)
  | none => fNe x y M Q
def isTyV : Value → Bool
  | .type _ => true
  | _ => false
theorem mro_ty : ∀ t ∈ tyNames, (fastBuiltinMro t).map (·.all isTyV) = some true := by decide +kernel
theorem sub_ty {K : Frag} {C : Addr} (t : String) (ht : t ∈ tyNames) : PySem.W.subIn K (.type t) (.ref C) = some false := by
  have h := mro_ty t ht
  show (fastBuiltinMro t).map (·.contains (.ref C)) = some false
  cases e : fastBuiltinMro t with
  | none => rw [e] at h; cases h
  | some l =>
    rw [e] at h
    have hl : l.all isTyV = true := Option.some.inj h
    show some (l.contains (.ref C)) = some false
    refine congrArg some ?_
    cases q : l.contains (.ref C) with
    | false => rfl
    | true =>
      have hm := List.contains_iff_mem.mp q
      have := List.all_eq_true.mp hl _ hm
      cases this
section
variable {X : Cx} {n : Str} {ps : List Str} {k : Nat} {sp : DSp}
/-- the other side's type -/
theorem oth_of {pins : List (Addr × Obj)} {σ : L2.St} {H : Hp} {s : Shared} {M : HM} {y : D} {u : V} {u' : Value} {C : Addr} (I : Inv X pins σ H s) (rh : RH X.K X.mg M H) (ry : RV X.K X.mg M H y u) (ru : RelV u u') (hm : X.mg n = some (.ref C)) (h : othD n (strip M) y) :
    ∃ tb, PySem.W.Looks (model X.prog X.w) s.heap (typeOf u') tb ∧ PySem.W.notFirst X.K C tb = true := by
  rcases h with ⟨t, e⟩ | ⟨fs, e⟩
  · obtain ⟨P, Z, p, _⟩ := kit_of I ru (ty_of rh ry e)
    exact ⟨_, Z.ty _ _ I.kIn p, Bool.or_eq_true_iff.mpr (.inr (by rw [sub_ty t (tyOf_mem e)]; rfl))⟩
  · obtain ⟨a, C', dx, vs, rfl, hc, ha, _⟩ := obj_of rh ry e
    rw [hm] at hc
    cases hc
    cases (show u' = Value.ref a from ru)
    obtain ⟨mA, O, _⟩ := ins_get I.hok ha
    obtain ⟨od, J, _⟩ := O.look
    exact ⟨_, J.type, Bool.or_eq_true_iff.mpr (.inl (by simp))⟩
theorem eq_run {A : Around} {pins : List (Addr × Obj)} {σ : L2.St} {H : Hp} {s : Shared} {M : HM} {x y : D} {v u : V} {v' u' : Value} {f : Addr} {fd : FuncData} {Qd : DK} {Q : VK} {g : Bool → Bool} (G : FnG X.prog X.w X.K X.mg X.base k f fd ps (liftSp X.K X.mg sp)) (hb : Binds X.K fd ps []) (hr : Room k A) (hG : A.guards = some []) (hf : A.frames = X.A.frames)
    (tk : Takes X (fun _ _ _ _ => False)) (I : Inv X pins σ H s) (rh : RH X.K X.mg M H) (rx : RV X.K X.mg M H x v) (ry : RV X.K X.mg M H y u) (rv : RelV v v') (ru : RelV u u') (hQ : HQ X.K X.mg M H Qd Q)
    (h : sp [x, y] (strip M) (fun r M1 => ∃ b, r = .bl b ∧ Qd (.bl (g b)) M1) (fun _ _ => False)) : wpAny (model X.prog X.w) A (call (.ref f) [v', u']) (fun w s' => ∃ c, w = .bool c ∧ EP X pins σ Q (.bool (g c)) s') X.xe s := by
  refine wpAny_mono (call_fnA (A := A) (Q := fun w H' => ∃ b, w = .bl b ∧ Q (.bl (g b)) H') (us := [v', u']) (vs := [v, u]) (dvs := []) (ds := []) (E := WE (fun _ _ _ _ => False) σ) G hr hG hf hb .nil (passAt tk σ) I (.cons rv (.cons ru .nil)) ?_) (fun w s' hw => ?_) fun _ _ z => z
  · exact ⟨[x, y], M, _, _, .cons rx (.cons ry .nil), rh, h, fun r M' w H' e rh' rr ⟨b, hb, q⟩ => by
      subst hb
      cases rr
      exact ⟨b, rfl, hQ _ _ _ _ e rh' .bl q⟩, fun _ _ _ _ _ _ _ _ z => z.elim⟩
  · obtain ⟨z, H', I', rz, b, rfl, q⟩ := hw
    cases (show w = Value.bool b from rz)
    exact ⟨b, rfl, .bl (g b), H', I', rfl, q⟩
theorem op_fEqO (F : EqF X.prog X.w X.K X.mg X.base n ps k sp) (hr : Room k X.A) (hG : X.A.guards = some []) (hu : X.A.units + 64 < cLine) : DOp X (compareOp .Eq) (fEqO n sp) := by
  obtain ⟨C, f, fd, hm, hs, hf, hne, hob, hb, G⟩ := F.ex
  intro pn xe pins s σ H v u v' u' Q I rv ru h
  obtain ⟨x, y, M, Qd, rx, ry, rh, h, hQ⟩ := h
  unfold fEqO at h
  split at h
  · rename_i n' fs e
    obtain ⟨rfl, ho, h⟩ := h
    obtain ⟨a, C', dx, vs, rfl, hc, ha, _⟩ := obj_of rh rx e
    rw [hm] at hc
    cases hc
    cases (show v' = Value.ref a from rv)
    obtain ⟨mA, O, _⟩ := ins_get I.hok ha
    obtain ⟨od, J, _⟩ := O.look
    obtain ⟨m, hF⟩ := I.fr
    obtain ⟨tb, hl, hn⟩ := oth_of (X := X.tr pn xe) I rh ry ru hm ho
    show wpAny _ _ (richCompare .Eq (.ref a) u') _ _ s
    refine PySem.W.cmp_K (op := .Eq) hr.units0 hF I.ok.mod.kin J hl hn hs hf (wpAny_mono (eq_run (X := X.tr pn xe) (g := id) G hb hr hG rfl takes0 I rh rx ry rv ru hQ h) (fun w s' hw => ?_) fun _ _ z => z)
    obtain ⟨c, rfl, q⟩ := hw
    exact q
  · exact op_fEq hu pn xe pins s σ H v u v' u' Q I rv ru ⟨x, y, M, Qd, rx, ry, rh, h, hQ⟩
theorem op_fNeO (F : EqF X.prog X.w X.K X.mg X.base n ps k sp) (hr : Room (k + 1) X.A) (hG : X.A.guards = some []) (hu : X.A.units + 64 < cLine) : DOp X (compareOp .NotEq) (fNeO n sp) := by
  obtain ⟨C, f, fd, hm, hs, hf, hne, hob, hb, G⟩ := F.ex
  intro pn xe pins s σ H v u v' u' Q I rv ru h
  obtain ⟨x, y, M, Qd, rx, ry, rh, h, hQ⟩ := h
  unfold fNeO at h
  split at h
  · rename_i n' fs e
    obtain ⟨rfl, ho, h⟩ := h
    obtain ⟨a, C', dx, vs, rfl, hc, ha, _⟩ := obj_of rh rx e
    rw [hm] at hc
    cases hc
    cases (show v' = Value.ref a from rv)
    obtain ⟨mA, O, _⟩ := ins_get I.hok ha
    obtain ⟨od, J, _⟩ := O.look
    obtain ⟨m, hF⟩ := I.fr
    obtain ⟨tb, hl, hn⟩ := oth_of (X := X.tr pn xe) I rh ry ru hm ho
    show wpAny _ _ (richCompare .NotEq (.ref a) u') _ _ s
    exact ne_own (Nat.lt_trans (Nat.add_lt_add_left (by decide : 1 < 64) _) hu) I.kIn J hl hn hs hf hne hob (wpAny_mono (eq_run (X := X.tr pn xe) (A := X.A.in1) (g := fun b => !b) G hb hr.in1 hG rfl takes0 I rh rx ry rv ru hQ h) (fun w s' hw => hw) fun _ _ z => z)
  · exact op_fNe hu pn xe pins s σ H v u v' u' Q I rv ru ⟨x, y, M, Qd, rx, ry, rh, h, hQ⟩
end
/-! ### isinstance(x, C), C an own class -/
structure IsiF (K : Frag) (mg : Str → Option Value) (n : Str) : Prop where
  ex : ∃ C, mg n = some (.ref C) ∧ Cls K C ∧ PySem.W.findIn K (.ref C) "__class__" = some (some (.builtin "object.__class__")) ∧ PySem.W.specialIn K (.builtin "object.__class__") "__get__" = some (some (.builtin "getset_descriptor.__get__")) ∧ PySem.W.takesIn K (.builtin "object.__class__") = some true ∧
    PySem.W.mroIn K C (.type "object") = some true ∧ PySem.W.typeIn K (.ref C) = some (.type "type")
/-- is it an instance of n's; none: it isn't said -/
def isaO (n : Str) (M : HM) (x : D) : Option Bool := match objOf M x with
  | some (n', _) => if n' = n then some true else none
  | none => (tyOf M x).map fun _ => false
def dIsO (n : Str) (d : DTE) : DTE := fun σ M Q E => d σ M (fun x M1 => ∃ b, isaO n M1 x = some b ∧ Q (.bl b) M1) E
theorem kitO_ty {K : Frag} {C : Addr} {t : String} (hc : Cls K C) (ht : PySem.W.typeIn K (.ref C) = some (.type "type")) (h : t ∈ tyNames) : PySem.W.kitOne K (.type t) (.ref C) = some false := by
  unfold PySem.W.kitOne
  have hne : ¬ (Value.type t == Value.ref C) = true := fun z => by have e := beq_iff_eq.mp z; cases e
  rw [if_neg hne]
  obtain ⟨cd, hcd, _⟩ := PySem.W.any_some hc.hd
  show (if ((PySem.W.clsIn K C).isSome && PySem.W.typeIn K (.ref C) == some (.type "type")) = true then PySem.W.subIn K (.type t) (.ref C) else none) = some false
  rw [hcd, ht]
  exact sub_ty (K := K) (C := C) t h
theorem kitO_self {K : Frag} {C : Addr} : PySem.W.kitOne K (.ref C) (.ref C) = some true := by
  unfold PySem.W.kitOne
  exact if_pos (beq_self_eq_true _)
section
variable {X : Cx} {n : Str} {e : Expr} {d : DTE} {p p2 pos : Pos}
theorem de_isO (F : IsiF X.K X.mg n) (he : DE X e d) (hgi : Gl X "isinstance") (hmi : X.mg "isinstance" = none) (hg : Gl X n) (hdb : (n == ("__debug__" : Str)) = false := by decide)
    (hs : starEach [e, (.Name n p2 : Expr)] X.env = (false, eval e X.env) :: starEach [(.Name n p2 : Expr)] X.env := by rfl) (hs2 : starEach [(.Name n p2 : Expr)] X.env = (false, eval (.Name n p2) X.env) :: starEach [] X.env := by rfl) (hpl : (backTo pos (starEach [(.Name n p2 : Expr)] X.env)).any (·.1) = false := by rfl) :
    DE X (.Call (.Name "isinstance" p) [e, .Name n p2] [] pos) (dIsO n d) := by
  obtain ⟨C, hm, cl, ha, hn, htk, hob, hty⟩ := F.ex
  refine ⟨fun pn xe W tk => PE.weak (pe_callB (X := X.tr pn xe) (call_isi (X := X.tr pn xe)) hgi hmi bb_isinstance (pa_cons (X := X.tr pn xe) (he.run pn xe W tk) (pa_cons (X := X.tr pn xe) (pe_glob (X := X.tr pn xe) (v := .ref C) hg hm rfl hdb) pa_nil hs2) hs) (by decide) (by decide) hs hpl) ?_⟩
  rintro σ H Q ⟨σd, M, Qd, Ed, rs, rh, h, hE, hQ⟩
  refine ⟨σd, M, _, Ed, rs, rh, h, hE, fun x M1 v H1 e1 rh1 r1 ⟨b, hb, q⟩ => ?_⟩
  unfold isaO at hb
  split at hb
  · rename_i n' fs eo
    split at hb
    · rename_i en
      subst en
      cases hb
      obtain ⟨a, C', dx, vs, rfl, hc, hea, _⟩ := obj_of rh1 r1 eo
      rw [hm] at hc
      cases hc
      exact ⟨_, _, .ref C, .ref C, true, rfl, .own C, .base (.ins hea cl ha hn htk hob), kitO_self, hQ _ _ _ _ e1 rh1 .bl q⟩
    · cases hb
  · cases et : tyOf (strip M1) x with
    | none => rw [et] at hb; cases hb
    | some t =>
      rw [et] at hb
      cases hb
      exact ⟨_, _, .type t, .ref C, false, rfl, .own C, ty_of rh1 r1 et, kitO_ty cl hty (tyOf_mem et), hQ _ _ _ _ e1 rh1 .bl q⟩
end
/-! ### f'..' -/
def dFmt (d : DTE) : DTE := fun σ M Q E => d σ M (fun x M1 => match x with
  | .str y => y.length ≤ 1000000 ∧ Q (.str y) M1
  | .int i => i.natAbs.log2 < 1920 ∧ Q (.str (toString i)) M1
  | _ => False) E
def dJs : List DTE → Str → DTE
  | [], acc => fun _ M Q _ => Q (.str acc) M
  | t :: ts, acc => fun σ M Q E => t σ M (fun x M1 => match x with
    | .str y => (acc ++ y).length ≤ 1000000 ∧ dJs ts (acc ++ y) σ M1 Q E
    | _ => False) E
inductive DJ (X : Cx) : List Expr → List DTE → Prop where
  | nil : DJ X [] []
  | cons {e : Expr} {t : DTE} {es : List Expr} {ts : List DTE} (h : DE X e t) (r : DJ X es ts) : DJ X (e :: es) (t :: ts)
section
variable {X : Cx} {e : Expr} {d : DTE} {pos : Pos}
theorem de_fmt (he : DE X e d) : DE X (.FormattedValue e (-1) none pos) (dFmt d) := by
  refine ⟨fun pn xe W tk => PE.weak (pe_fmt (X := X.tr pn xe) (he.run pn xe W tk)) ?_⟩
  rintro σ H Q ⟨σd, M, Qd, Ed, rs, rh, h, hE, hQ⟩
  refine ⟨σd, M, _, Ed, rs, rh, h, hE, fun x M1 v H1 e1 rh1 r1 q1 => ?_⟩
  dsimp only at q1
  split at q1
  · cases r1
    exact .inl ⟨_, rfl, le_line q1.1, hQ _ _ _ _ e1 rh1 .str q1.2⟩
  · cases r1
    exact .inr ⟨_, rfl, q1.1, hQ _ _ _ _ e1 rh1 .str q1.2⟩
  · exact q1.elim
theorem DJ.pj {es : List Expr} {ts : List DTE} (h : DJ X es ts) (pn : List (Addr × Obj)) (xe : Value → Shared → Prop) (W : WX) (tk : Tk X pn xe W) : PJ (X.tr pn xe) es (ts.map (lift X.K X.mg W)) := by
  induction h with
  | nil => exact .nil
  | cons h r ih => exact .cons (h.run pn xe W tk) ih
theorem js_lift {K : Frag} {mg : Str → Option Value} {W : WX} : ∀ {ts : List DTE} {acc : Str} {σ : L2.St} {H : Hp} {σd : DSt} {M : HM} {Qd : DK} {Ed : XDK} {Q : VK}, RS K mg M H σd σ → RH K mg M H → dJs ts acc σd (strip M) Qd Ed → HE K mg W M H σ Ed → HQ K mg M H Qd Q →
    tJs (ts.map (lift K mg W)) acc σ H fun out H1 => Q (.str out) H1
  | [], acc, σ, H, σd, M, Qd, Ed, Q, rs, rh, h, hE, hQ => hQ _ _ _ _ .refl rh .str h
  | t :: ts, acc, σ, H, σd, M, Qd, Ed, Q, rs, rh, h, hE, hQ => by
    refine ⟨σd, M, _, Ed, rs, rh, h, hE, fun x M1 v H1 e1 rh1 r1 q1 => ?_⟩
    dsimp only at q1
    split at q1
    · cases r1
      exact ⟨_, rfl, le_line q1.1, js_lift (rs.ext e1) rh1 q1.2 (hE.ext e1) (hQ.ext e1)⟩
    · exact q1.elim
theorem de_joined {v1 v2 : Expr} {rest : List Expr} {ts : List DTE} (h : DJ X (v1 :: v2 :: rest) ts) : DE X (.JoinedStr (v1 :: v2 :: rest) pos) (dJs ts Str.empty) := by
  refine ⟨fun pn xe W tk => PE.weak (pe_joined (X := X.tr pn xe) (h.pj pn xe W tk)) ?_⟩
  rintro σ H Q ⟨σd, M, Qd, Ed, rs, rh, h, hE, hQ⟩
  exact js_lift rs rh h hE hQ
end
/-! ### str(x) by an own __str__ -/
structure StrF (P : Program) (w : World) (K : Frag) (mg : Str → Option Value) (base : Heap) (n : Str) (ps : List Str) (k : Nat) (sp : DSp) : Prop where
  ex : ∃ C f fd, mg n = some (.ref C) ∧ PySem.W.findIn K (.ref C) "__str__" = some (some (.ref f)) ∧ PySem.W.isFn K (.ref f) = true ∧ Binds K fd ps [] ∧ FnG P w K mg base k f fd ps (liftSp K mg sp)
def fStrO (n : Str) (sp : DSp) : DCo := fun xs M Q => match xs with
  | [x] => (match objOf M x with
    | some (n', _) => n' = n ∧ sp [x] M (fun r M1 => ∃ y, r = .str y ∧ Q (.str y) M1) (fun _ _ => False)
    | none => fStr [x] M Q)
  | _ => False
section
variable {X : Cx} {n : Str} {ps : List Str} {k : Nat} {sp : DSp}
theorem c_strO (F : StrF X.prog X.w X.K X.mg X.base n ps k sp) (hr : Room (k + 2) X.A) (hG : X.A.guards = some []) : DCall X (.type "str") (fStrO n sp) := by
  obtain ⟨C, f, fd, hm, hs, hf, hb, G⟩ := F.ex
  intro pn xe pins s σ H vs us Q I rv h
  obtain ⟨xs, M, Qd, rx, rh, h, hQ⟩ := h
  unfold fStrO at h
  split at h
  · rename_i x
    split at h
    · rename_i n' fs e
      obtain ⟨rfl, h⟩ := h
      obtain ⟨v, rfl, r⟩ := rx.one
      obtain ⟨a, C', dx, ws, rfl, hc, ha, _⟩ := obj_of rh r e
      rw [hm] at hc
      cases hc
      obtain ⟨u, rfl, ru⟩ := Vals.one rv
      cases (show u = Value.ref a from ru)
      obtain ⟨mA, O, _⟩ := ins_get I.hok ha
      obtain ⟨od, J, _⟩ := O.look
      have hr2 : Room k X.A.in1.in1 := (show Room (k + 1) X.A.in1 from Room.in1 hr).in1
      refine PySem.W.kso_call hr2.units0 I.kIn J hs hf (wpAny_mono (call_fnA (X := X.tr pn xe) (A := X.A.in1.in1) (Q := fun w H' => ∃ y, w = .str y ∧ Q (.str y) H') (us := [.ref a]) (vs := [.ref a]) (dvs := []) (ds := []) (E := WE (fun _ _ _ _ => False) σ) G hr2 hG rfl hb .nil (passAt takes0 σ) I (.cons rfl .nil) ?_) (fun w s' hw => ?_) fun _ _ z => z)
      · exact ⟨[x], M, _, _, .cons r .nil, rh, h, fun r' M' w H' e' rh' rr ⟨y, hy, q⟩ => by
          subst hy
          cases rr
          exact ⟨y, rfl, hQ _ _ _ _ e' rh' .str q⟩, fun _ _ _ _ _ _ _ _ z => z.elim⟩
      · obtain ⟨z, H', I', rz, y, rfl, q⟩ := hw
        obtain ⟨t, rfl⟩ := (show ∃ t, w = Value.str y t from rz)
        exact ⟨.str y, H', I', ⟨t, rfl⟩, q⟩
    · exact c_str pn xe pins s σ H vs us Q I rv ⟨_, M, Qd, rx, rh, h, hQ⟩
  · exact h.elim
end
end DL

set_option Elab.async false
set_option linter.all false
set_option maxRecDepth 100000
set_option maxHeartbeats 400000
namespace DL
open PySem PySem.Spec PyProof.Rows L2
open PySem.W (Frag)
variable [TB]

/-! ### op= -/
section
variable {X : Cx}
def iDivI : DO2 := ii fun i j M Q => (0 < j ∧ j < 1073741824) ∧ Q (.int (i / j)) M
theorem op_iDivI : DOp X (inplaceOp .FloorDiv) iDivI := op_ii (zd := fun i j => .int (i / j)) (fun _ _ => iop_fdiv) (fun _ _ _ _ => .int) fun _ _ _ _ h => h
def iModI : DO2 := ii fun i j M Q => 0 < j ∧ Q (.int (i % j)) M
theorem op_iModI : DOp X (inplaceOp .Mod) iModI := op_ii (zd := fun i j => .int (i % j)) (fun _ _ => iop_mod) (fun _ _ _ _ => .int) fun _ _ _ _ h => h
def iMulI : DO2 := ii fun i j M Q => CMul i j ∧ Q (.int (i * j)) M
theorem op_iMulI : DOp X (inplaceOp .Mult) iMulI := op_ii (zd := fun i j => .int (i * j)) (fun _ _ => iop_mul) (fun _ _ _ _ => .int) fun _ _ _ _ h => h
end
/-! ### t[r::c] -/
def plN (r c n : Nat) : Nat := if r < n then (n - r - 1) / c + 1 else 0
def stepG {α : Type} (xs : List α) (r c : Nat) : List α := (List.range (plN r c xs.length)).filterMap fun m => xs[min r xs.length + m * c]?
section
open HT
variable {prog : Program} {w : World} {A : Around} {E : Value → Shared → Prop} {s : Shared}
theorem sliceApplied_step {sl : Addr} {vl vs : Value} {r c : Int} {n : Nat} {Q : Int × Int × Nat → Shared → Prop} (hs : s.heap.IsSliceOf sl vl .none vs) (pl : IsPart vl (some r)) (ps : IsPart vs (some c)) (hr : 0 ≤ r) (hc : 2 ≤ c)
    (h : Q (((min r.toNat n : Nat) : Int), c, plN r.toNat c.toNat n) s) : wpAny (model prog w) A (Builtin.Slice.sliceApplied (.ref sl) (pure (n : Int))) Q E s := by
  obtain ⟨os, hos, hcs, hds⟩ := id hs
  unfold Builtin.Slice.sliceApplied Builtin.Slice.sliceFields
  refine wpAny_bind (wpAny_bind (wpAny_field hos hds (x := vl) rfl (wpAny_bind (wpAny_field hos hds (x := .none) rfl (wpAny_bind (wpAny_field hos hds (x := vs) rfl (wpAny_pure ?_)))))))
  refine wpAny_bind (slicePart_ ps ?_)
  show wpAny _ _ (if (c == 0) = true then _ else _) _ _ s
  rw [if_neg (by simp; omega)]
  refine wpAny_bind (slicePart_ pl (wpAny_bind (slicePart_none (wpAny_bind (wpAny_pure ?_)))))
  show wpAny _ _ (match Builtin.Slice.sliceAdjust (some r) none c (n : Int) with | (lo, hi) => pure (lo, c, Builtin.Slice.slicePlaces lo hi c)) _ _ s
  have e : Builtin.Slice.sliceAdjust (some r) none c (n : Int) = (((min r.toNat n : Nat) : Int), (n : Int)) := by
    unfold Builtin.Slice.sliceAdjust
    have h1 : ¬ (c < 0) := by omega
    have h2 : ¬ (r < 0) := by omega
    simp only [h1, h2, if_false]
    refine Prod.ext ?_ rfl
    show min r (n : Int) = _
    omega
  rw [e]
  show wpAny _ _ (pure (((min r.toNat n : Nat) : Int), c, Builtin.Slice.slicePlaces ((min r.toNat n : Nat) : Int) (n : Int) c)) _ _ s
  have e2 : Builtin.Slice.slicePlaces ((min r.toNat n : Nat) : Int) (n : Int) c = plN r.toNat c.toNat n := by
    unfold Builtin.Slice.slicePlaces plN
    have h1 : c > 0 := by omega
    simp only [h1, if_true]
    by_cases hl : r.toNat < n
    · rw [if_pos hl, if_pos (by omega)]
      have hd : ((n : Int) - ((min r.toNat n : Nat) : Int) - 1) = (((n - r.toNat - 1 : Nat)) : Int) := by omega
      rw [hd]
      obtain ⟨k, rfl⟩ : ∃ k : Nat, c = (k : Int) := ⟨c.toNat, by omega⟩
      show (((n - r.toNat - 1 : Nat) : Int) / (k : Int) + 1).toNat = (n - r.toNat - 1) / (k : Int).toNat + 1
      rw [← Int.natCast_ediv, Int.toNat_natCast k]
      generalize (n - r.toNat - 1) / k = q
      omega
    · rw [if_neg hl, if_neg (by omega)]
      rfl
  rw [e2]
  exact wpAny_pure h
theorem getItem_tuple_step {t sl : Addr} {items : Array Value} {vl vs : Value} {r c : Int} {Q : Value → Shared → Prop} (ht : IsTup s.heap t items) (hs : s.heap.IsSliceOf sl vl .none vs) (pl : IsPart vl (some r)) (ps : IsPart vs (some c)) (hr : 0 ≤ r) (hc : 2 ≤ c)
    (h : Q (.ref s.heap.objs.size) { s with heap := s.heap.push { cls := .type "tuple", data := .seq (stepG items.toList r.toNat c.toNat).toArray } })
    (hsz : items.size ≤ sizeLine) : wpAny (model prog w) A (getItem (.ref t) (.ref sl)) Q E s := by
  have hk : ∀ {r c n : Nat}, 1 ≤ c → plN r c n ≤ n := by
    intro r c n hc
    unfold plN
    split
    · have := Nat.div_le_self (n - r - 1) c
      omega
    · exact Nat.zero_le _
  have htake : sizeOk (.seq (stepG items.toList r.toNat c.toNat).toArray) := by
    show (stepG items.toList r.toNat c.toNat).toArray.size ≤ sizeLine
    rw [List.size_toArray]
    refine Nat.le_trans (List.length_filterMap_le _ _) ?_
    rw [List.length_range]
    refine Nat.le_trans (hk (by omega)) ?_
    rw [Array.length_toList]
    exact hsz
  obtain ⟨os, hos, hcs, hds⟩ := id hs
  have hTs : s.TypeIs (.ref sl) "slice" := ⟨os, hos, hcs⟩
  unfold getItem
  try with_reducible refine wpAny_holding ?_
  first | refine wpAny_bind (wpAny_pure ?_) | skip
  refine wpAny_bind (wpAny_sequenceKey ht.typeIs (by decide) ?_)
  refine wpAny_bind (wpAny_callSpecial?_slot (name := Str.ofString "__getitem__") ht.typeIs PyProof.Rows.slot_tuple_getitem
    (wpAny_call_entry PyProof.Rows.slot_tuple_getitem ht.typeIs entry_tuple_getitem ?_ (args_tuple_getitem _ _)))
  show wpAny _ _ (Builtin.Tuple.tupleItemsOf (.ref t) >>= _) _ _ s
  refine wpAny_bind (tupleItemsOf_ ht ?_)
  refine wpAny_bind (wpAny_typeOf hTs ?_)
  rw [if_pos (by decide)]
  refine wpAny_bind (sliceApplied_step hs pl ps hr hc ?_)
  have hno : ¬ ((((min r.toNat items.size : Nat) : Int) == 0 && c == 1 && (plN r.toNat c.toNat items.size) == items.size) = true) := by
    intro q
    rw [Bool.and_eq_true, Bool.and_eq_true] at q
    have q1 : c = 1 := eq_of_beq q.1.2
    omega
  show wpAny _ _ (if (((min r.toNat items.size : Nat) : Int) == 0 && c == 1 && (plN r.toNat c.toNat items.size) == items.size) = true then _ else _) _ _ s
  rw [if_neg hno]
  have ep : ((List.range (plN r.toNat c.toNat items.size)).filterMap fun (k : Nat) => items[(((min r.toNat items.size : Nat) : Int) + (k : Int) * c).toNat]?).toArray = (stepG items.toList r.toNat c.toNat).toArray := by
    unfold stepG
    rw [Array.length_toList]
    congr 1
    refine congrArg (fun f => List.filterMap f (List.range (plN r.toNat c.toNat items.size))) ?_
    funext k
    have e : (((min r.toNat items.size : Nat) : Int) + (k : Int) * c).toNat = min r.toNat items.size + k * c.toNat := by
      obtain ⟨d, rfl⟩ : ∃ d : Nat, c = (d : Int) := ⟨c.toNat, by omega⟩
      rw [Int.toNat_natCast]
      rw [← Int.natCast_mul, ← Int.natCast_add, Int.toNat_natCast]
    rw [e]
    simp
  rw [ep]
  first
    | exact wpAny_bind (m := Builtin.Tuple.tupleExact _) (wpAny_newObj_type (wpAny_pure ⟨_, rfl, wpAny_pure h⟩) htake)
    | exact wpAny_bind (m := Builtin.Tuple.tupleExact _) (wpAny_newObj_type (wpAny_bind (wpAny_pure (wpAny_pure ⟨_, rfl, wpAny_pure h⟩))) htake)
    | exact wpAny_bind (wpAny_bind (m := Builtin.Tuple.tupleExact _) (wpAny_newObj_type (wpAny_pure (wpAny_pure ⟨_, rfl, wpAny_pure h⟩)) htake))
    | exact wpAny_bind (wpAny_bind (m := Builtin.Tuple.tupleExact _) (wpAny_newObj_type (wpAny_pure ⟨_, rfl, wpAny_pure h⟩) htake))
end
theorem vals_step {xs : List V} {us : List Value} (r : Vals xs us) (a c : Nat) : Vals (stepG xs a c) (stepG us a c) := by
  unfold stepG
  rw [r.length]
  generalize List.range _ = l
  induction l with
  | nil => exact .nil
  | cons m l ih =>
    rw [List.filterMap_cons, List.filterMap_cons]
    cases e : xs[min a us.length + m * c]? with
    | none =>
      have e2 : us[min a us.length + m * c]? = none := by
        rw [List.getElem?_eq_none_iff] at e ⊢
        rw [r.length] at e; exact e
      rw [e2]
      exact ih
    | some v =>
      obtain ⟨u, hu, ru⟩ := r.get e
      rw [hu]
      exact .cons ru ih
theorem RVs.step {K : Frag} {mg : Str → Option Value} {M : HM} {H : Hp} {ds : List D} {vs : List V} (r : RVs K mg M H ds vs) (a c : Nat) : RVs K mg M H (stepG ds a c) (stepG vs a c) := by
  unfold stepG
  rw [r.length]
  generalize List.range _ = l
  induction l with
  | nil => exact .nil
  | cons m l ih =>
    rw [List.filterMap_cons, List.filterMap_cons]
    cases e : ds[min a vs.length + m * c]? with
    | none =>
      have e2 : vs[min a vs.length + m * c]? = none := by
        rw [List.getElem?_eq_none_iff] at e ⊢
        rw [r.length] at e; exact e
      rw [e2]
      exact ih
    | some v =>
      obtain ⟨u, hu, ru⟩ := r.getD e
      rw [hu]
      exact .cons ru ih
def tStep (K : Frag) (te : TE) (tl ts : TO) : TE := fun σ H Q => te σ H fun x H1 => tl σ H1 fun l H2 => ts σ H2 fun st H3 => ∃ a xs r c, x = .ref a ∧ SqT K H3 a xs ∧ l = some r ∧ st = some c ∧ 0 ≤ r ∧ 2 ≤ c ∧ ∀ p, H3 p = none → Q (.ref p) (upd H3 p (.tup (stepG xs r.toNat c.toNat)))
theorem pe_step {X : Cx} {e : Expr} {lo : Option Expr} {st : Expr} {te : TE} {tl ts : TO} {p2 pos : Pos} (he : PE X e te) (hl : PO X lo tl) (hst : PO X (some st) ts) : PE X (.Subscript e (.Slice lo none (some st) p2) pos) (tStep X.K te tl ts) := by
  refine ⟨fun pins s σ H Q I h => ?_⟩
  refine Subscript_ (thn (he.run pins s σ H _ I h) fun v s1 ⟨x, H1, I1, r1, q1⟩ => ?_)
  refine wpAny_Slice (thn (hl.run pins s1 σ H1 _ I1 q1) fun vl s2 ⟨l, H2, I2, pl, q2⟩ => ?_)
  refine thn (po_none.run pins s2 σ H2 (fun o H3 => o = none ∧ H3 = H2) I2 ⟨rfl, rfl⟩) fun vu s3 ⟨u, H3, I3, pu, eu, e3⟩ => ?_
  subst eu e3
  refine thn (hst.run pins s3 σ H3 _ I3 q2) fun vs s4 ⟨o, H4, I4, ps, a, xs, r, c, ex, hx, el, eo, hr, hc, q⟩ => ?_
  subst ex el eo
  cases r1
  have en : vu = .none := by cases pu; rfl
  subst en
  have I5 : Inv X pins σ H4 { s4 with heap := s4.heap.push { cls := .type "slice", data := .fields #[vl, .none, vs] } } := I4.kept (t' := s4.toks) fun b ob q => Heap.get?_push_of_some _ q
  obtain ⟨its, rr, ht, hz⟩ := I5.tuple hx
  have hlen : its.toArray.size = xs.length := by rw [List.size_toArray]; exact rr.length.symm
  show wpAny (model X.prog X.w) X.A (subscriptTail e (.Slice lo none (some st) p2) (.ref a) (.ref s4.heap.objs.size)) (EP X pins σ Q) X.xe { s4 with heap := s4.heap.push { cls := .type "slice", data := .fields #[vl, .none, vs] } }
  refine tail_any (ops := [.ref a, .ref s4.heap.objs.size]) ht.typeIs (PyProof.Rows.slot_tuple_getitem.lookup) ?_ (by with_unfolding_all rfl)
  refine getItem_tuple_step ht (Heap.IsSliceOf.new _ vl .none vs) pl ps hr hc ?_ (by rw [hlen]; exact hz)
  refine ⟨.ref _, _, I5.laid (t' := s4.toks) (o := .tup (stepG xs r.toNat c.toNat)) (fun b ob q => Heap.get?_push_of_some _ q) (Nat.le_refl _) ?_, rfl, q _ (I5.hok.fresh (Nat.le_refl _))⟩
  refine ⟨?_, _, vals_step rr _ _, IsTup.new _ _⟩
  refine Nat.le_trans (List.length_filterMap_le _ _) ?_
  rw [List.length_range]
  refine Nat.le_trans ?_ hz
  unfold plN
  split
  · have := Nat.div_le_self (xs.length - r.toNat - 1) c.toNat
    omega
  · exact Nat.zero_le _
def dStep (d : DTE) (dl dst : DTO) : DTE := fun σ M Q E => d σ M (fun x M1 => dl σ M1 (fun lo M2 => dst σ M2 (fun st M3 => match x, lo, st with
  | .tup ds, some r, some c => (0 ≤ r ∧ 2 ≤ c) ∧ Q (.tup (stepG ds r.toNat c.toNat)) M3
  | _, _, _ => False) E) E) E
theorem de_step {X : Cx} {e : Expr} {lo : Option Expr} {st : Expr} {d : DTE} {dl dst : DTO} {p2 pos : Pos} (he : DE X e d) (hl : DPt X lo dl) (hst : DPt X (some st) dst) : DE X (.Subscript e (.Slice lo none (some st) p2) pos) (dStep d dl dst) := by
  refine ⟨fun pn xe W tk => PE.weak (pe_step (X := X.tr pn xe) (he.run pn xe W tk) (hl.run pn xe W tk) (hst.run pn xe W tk)) ?_⟩
  rintro σ H Q ⟨σd, M, Qd, Ed, rs, rh, h, hE, hQ⟩
  refine ⟨σd, M, _, Ed, rs, rh, h, hE, fun x M1 v H1 e1 rh1 r1 q1 => ?_⟩
  refine ⟨σd, M1, _, Ed, rs.ext e1, rh1, q1, hE.ext e1, fun lo M2 H2 e2 rh2 q2 => ?_⟩
  refine ⟨σd, M2, _, Ed, (rs.ext e1).ext e2, rh2, q2, (hE.ext e1).ext e2, fun st M3 H3 e3 rh3 q3 => ?_⟩
  dsimp only at q3
  split at q3
  · rename_i ds r c
    obtain ⟨a, vs, rfl, h2, h3⟩ := tup_of ((r1.ext e2).ext e3) rfl
    exact ⟨a, vs, r, c, rfl, h2, rfl, rfl, q3.1.1, q3.1.2, fun p hp => (((hQ.ext e1).ext e2).ext e3).tup rh3 hp (h3.step _ _) q3.2⟩
  · exact q3.elim
/-! ### defs of classes, with defaults -/
structure FunL (K : Frag) (x qual : Str) (st : Stmt) (f : Addr) (fd : FuncData) : Prop where
  ex : ∃ (oc : Value) (od : Option Addr) (dV kV doc pm : Value) (an : Option Addr) (cdv ct : Value) (osl : Array (Option Value)),
    fd = PySem.W.fnOf x qual (defArgs st) (defBody st) (defScope st) dV kV doc pm an cdv ct ∧ K.lookup f = some ⟨oc, od, .func fd, osl⟩ ∧ PySem.W.codeIn K cdv qual = true
theorem funl_mk {K : Frag} {x qual : Str} {st : Stmt} {f : Addr} {od an : Option Addr} {sl : Array (Option Value)} {oc dV kV dc pm cd ct : Value}
    (l : K.lookup f = some ⟨oc, od, .func (PySem.W.fnOf x qual (defArgs st) (defBody st) (defScope st) dV kV dc pm an cd ct), sl⟩) (c : PySem.W.codeIn K cd qual = true) : FunL K x qual st f (PySem.W.fnOf x qual (defArgs st) (defBody st) (defScope st) dV kV dc pm an cd ct) :=
  ⟨oc, od, dV, kV, dc, pm, an, cd, ct, sl, rfl, l, c⟩
/-- a def's own defaults fill up: from the j-th on -/
theorem binds_d {K : Frag} {fd : FuncData} {ps : List Str} {T : Addr} {o : Obj} {its : List Value} {m : Nat} (j : Nat) (lT : K.lookup T = some o) (oT : o.data = .seq its.toArray m)
    (h : ∀ us : List Value, us.length + (its.drop j).length = ps.length → ∃ k, bindArgs fd ⟨us, []⟩ = seqItems? (.ref T) >>= k ∧ k (some its.toArray) = pure (ps.zip (us ++ its.drop j))) : Binds K fd ps (its.drop j) := by
  intro s us X hl
  rw [List.length_append] at hl
  obtain ⟨k, e1, e2⟩ := h us hl
  refine BindsTo.of_looks fun M => ?_
  rw [e1]
  exact looks_items X lT oT (.of_pure e2)
section
variable {P : Program} {w : World} {K : Frag} {mg : Str → Option Value} {base : Heap}
theorem fnG_ofL {x qual : Str} {st : Stmt} {f : Addr} {fd : FuncData} {N ps : List Str} {k : Nat} {sp : Sp} (F : FunL K x qual st f fd) (S : FnScope N ps (defScope st)) (len : ∀ vs H Q E, sp vs H Q E → vs.length = ps.length)
    (hbody : ∀ (cdv : Value) (A : Around) (outer : List Env) (s : Shared) (H : Hp) (vs : List V) (Q : VK) (E : XK), Room k (A.deeper (envOfC qual (defScope st) s.heap.objs.size f cdv)) → A.guards = some [] → sp vs H Q E →
      ∃ t, PSs (cxOf (L2.CX P w) P w K mg base N qual (defScope st) f cdv A outer s H E) (defBody st) t ∧ t { nx := fun _ H' => Q .non H', rt := Q } (L2.start N vs) H) : FnG P w K mg base (k + 1) f fd ps sp := by
  obtain ⟨oc, od, dV, kV, doc, pm, an, cdv, ct, osl, rfl, lk, hcd⟩ := F.ex
  refine { len := len, run := fun A outer s H args us vs Q E hr hG e0 hb r hsp => ?_ }
  have stay : ∀ b o, base.get? b = some o → s.heap.get? b = some o := fun b o e => (e0.bs b o e).1
  have kin : K.In s.heap := e0.mod.kin.keeps stay
  have nol : s.heap.NoLimit := e0.mod.nolimit.keeps stay
  have kinds : ∀ y ∈ ps.zip us, (defScope st).names.lookup y.1 = some .local ∨ ((defScope st).names.lookup y.1 = some .cell ∧ ((cellsFrom (s.heap.objs.size + 1) (defScope st).names []).lookup y.1).isSome = true) := by
    rintro ⟨n, v⟩ hy
    exact (S.par n (List.of_mem_zip hy).1).imp id fun q => ⟨q, PySem.W.cellsFrom_some _ _ _ (.inl q)⟩
  refine codeAny_call_function hr.depth (kin _ _ lk) rfl S.co S.gen rfl (PySem.W.codeRec_of kin hcd) (hb _ _ _ _ ?_)
  refine wpAny_newFunctionEnv_cells S.kind kinds fun env he s1 hx => ?_
  cases he
  refine ⟨nol.keeps hx.toInCall.keep, codeAny_func ?_⟩
  obtain ⟨t, pt, q⟩ := hbody cdv A outer s H vs Q E (hr.deeper _) hG hsp
  have I0 := inv_start (CX := L2.CX P w) (E := E) S hr.hd e0 (len _ _ _ _ hsp) r hx
  refine wpAny_mono (pt.run [] s1 _ H _ I0 q) (fun fl s' hs => ?_) fun _ _ z => z
  cases fl with
  | brk => exact (hs.choose_spec.choose_spec.2).elim
  | cont => exact (hs.choose_spec.choose_spec.2).elim
  | next =>
    obtain ⟨σ', H', J, z⟩ := hs
    exact ⟨V.non, H', J.os, J.bare, J.base, J.hok, rfl, z⟩
  | ret u =>
    obtain ⟨v, σ', H', J, rv, z⟩ := hs
    exact ⟨v, H', J.os, J.bare, J.base, J.hok, rv, z⟩
theorem fn_okL {x qual : Str} {st : Stmt} {f : Addr} {fd : FuncData} {N ps : List Str} {k : Nat} {sp : DSp} {d : DTS} (F : FunL K x qual st f fd) (S : FnScope N ps (defScope st))
    (hb : ∀ (cdv : Value) (A : Around) (outer : List Env) (s : Shared) (H : Hp) (E : XK), Room k (A.deeper (envOfC qual (defScope st) s.heap.objs.size f cdv)) → A.guards = some [] → DSs (cxOf (L2.CX P w) P w K mg base N qual (defScope st) f cdv A outer s H E) (defBody st) d)
    (hd : ∀ xs M Q E, sp xs M Q E → xs.length = ps.length ∧ d (ends Q E) (startD N.length xs) M) : FnG P w K mg base (k + 1) f fd ps (liftSp K mg sp) := by
  refine fnG_ofL F S (fun vs H Q E h => ?_) (fun cdv A outer s H vs Q E hr hG h => ?_)
  · obtain ⟨xs, M, Qd, Ed, r, rh, h, _, _⟩ := h
    rw [← r.length]
    exact (hd _ _ _ _ h).1
  · obtain ⟨xs, M, Qd, Ed, r, rh, h, hQ, hE⟩ := h
    have tk : Takes (cxOf (L2.CX P w) P w K mg base N qual (defScope st) f cdv A outer s H E) (fun cls d _ H => E cls d H) := takes_of rfl rfl rfl rfl
    refine ⟨_, (hb cdv A outer s H E hr hG).run [] _ _ ⟨tk, fun _ h => nomatch h⟩ (passes_of rfl), ?_⟩
    have fin : HQ K mg M H (RetK Qd) Q := fun r' M' v H' e' rh' rv ⟨r2, M2, fz, q⟩ => by
      obtain ⟨B, eB, x1, rh2, rv2⟩ := fz_rel fz rfl rv rh'
      exact hQ _ _ _ _ (e'.trans x1) rh2 rv2 (by rw [eB]; exact q)
    refine ⟨_, M, ends Qd Ed, rs_start r, rh, (hd _ _ _ _ h).2, ⟨fun σd' M' σ' H' e' rh' rs' q => fin _ _ _ _ e' rh' .non q, fin, fun _ _ _ _ _ _ _ q => q.elim, fun _ _ _ _ _ _ _ q => q.elim, ?_⟩⟩
    rintro x' σd' M' σ' H' cls dd e' rh' rs' rx ⟨M2, hs, q⟩
    obtain ⟨h1, h2, h3⟩ := cut_ok (B := M') hs
    have ex : Ext M' H' (cut M' M2) H' := Ext.sub h1 h2
    refine hE _ _ _ _ _ (e'.trans ex) (rh'.sub h1 h2) ⟨rx.1, ?_⟩ (by rw [h3]; exact q)
    have r2 := rx.2
    cases dd with
    | none => exact r2
    | some a =>
      obtain ⟨nf, vs, ha, hb, rf⟩ := r2
      exact ⟨nf, vs, ex.nm hb ha, hb, rf.ext ex⟩
end
/-! ### what the top has made of a class -/
structure ClsA (K : Frag) (mg : Str → Option Value) (n : Str) (C : Addr) : Prop where
  m : mg n = some (.ref C)
  c : Cls K C
  mks : PySem.W.makesIn K C = true
  kp : PySem.W.keepIn K (.ref C) = true
  ca : PySem.W.findIn K (.ref C) "__class__" = some (some (.builtin "object.__class__"))
  cn : PySem.W.specialIn K (.builtin "object.__class__") "__get__" = some (some (.builtin "getset_descriptor.__get__"))
  ct : PySem.W.takesIn K (.builtin "object.__class__") = some true
  ob : PySem.W.mroIn K C (.type "object") = some true
  ty : PySem.W.typeIn K (.ref C) = some (.type "type")
section
variable {P : Program} {w : World} {K : Frag} {mg : Str → Option Value} {base : Heap} {n m : Str} {C f : Addr} {fd : FuncData} {ps : List Str} {k : Nat} {sp : DSp}
theorem ClsA.fld (c : ClsA K mg n C) {x : Str} (h : PySem.W.findIn K (.ref C) x = some none) : FldF K mg n x := ⟨C, c.m, c.c, h⟩
theorem ClsA.isi (c : ClsA K mg n C) : IsiF K mg n := ⟨C, c.m, c.c, c.ca, c.cn, c.ct, c.ob, c.ty⟩
theorem ClsA.meth (c : ClsA K mg n C) (a : PySem.W.findIn K (.ref C) m = some (some (.ref f))) (i : PySem.W.isFn K (.ref f) = true) (kp : PySem.W.keepIn K (.ref f) = true) (b : Binds K fd ps []) (G : FnG P w K mg base k f fd ps (liftSp K mg sp)) : MFn P w K mg base n m ps k [] sp :=
  ⟨C, f, fd, [], [], c.m, c.c, ⟨a, i, kp⟩, .nil, fun _ _ => .nil, b, G⟩
theorem ClsA.eq (c : ClsA K mg n C) (a : PySem.W.findIn K (.ref C) "__eq__" = some (some (.ref f))) (i : PySem.W.isFn K (.ref f) = true) (ne : PySem.W.findIn K (.ref C) "__ne__" = some (some (.builtin "object.__ne__"))) (b : Binds K fd ps []) (G : FnG P w K mg base k f fd ps (liftSp K mg sp)) : EqF P w K mg base n ps k sp :=
  ⟨C, f, fd, c.m, a, i, ne, c.ob, b, G⟩
theorem ClsA.str (c : ClsA K mg n C) (a : PySem.W.findIn K (.ref C) "__str__" = some (some (.ref f))) (i : PySem.W.isFn K (.ref f) = true) (b : Binds K fd ps []) (G : FnG P w K mg base k f fd ps (liftSp K mg sp)) : StrF P w K mg base n ps k sp :=
  ⟨C, f, fd, c.m, a, i, b, G⟩
theorem ClsA.make (c : ClsA K mg n C) (a : PySem.W.findIn K (.ref C) "__init__" = some (some (.ref f))) (i : PySem.W.isFn K (.ref f) = true) {dvs : List D} {vs : List V} {ds : List Value} (hv : Vals vs ds) (hr : ∀ M H, RVs K mg M H dvs vs) (b : Binds K fd ps ds) (G : FnG P w K mg base k f fd ps (liftSp K mg sp)) : IFn P w K mg base n ps k dvs sp :=
  ⟨C, f, fd, vs, ds, c.m, ⟨c.mks, a, i, c.kp⟩, hv, hr, b, G⟩
end
end DL

set_option Elab.async false
set_option linter.all false
set_option maxRecDepth 100000
set_option maxHeartbeats 400000
namespace DL
open PySem PySem.Spec PyProof.Rows L2
open PySem.W (Frag)
variable [TB]
theorem no_ne {α : Type} [DecidableEq α] {a b : α} (h : a = b) (z : (!decide (a = b)) = true) : False := by
  rw [decide_eq_true h] at z; cases z
theorem prod_cg (p : Int) (a f : List Int) : Cg p (ati (prodR p a f)) (mulS (ati a) (ati f)) := fun n => by rw [ati_prodR, Int.emod_emod, cv_mulS]
theorem Div.dr {p : Int} (hp : 0 < p) {x y t r d : List Int} (h : Div p x y t r) (hx : Dv p d x) (hy : Dv p d y) : Dv p d r := (h.lc (.left x y) (.right x y)).dv hp hx hy
theorem In.prod {p : Int} (hp : 0 < p) (a b : List Int) : In p (prodR p a b) ∧ Tr (prodR p a b) := ⟨(In.zip hp).trim, trim_trim _⟩
theorem len_prod (p : Int) (a b : List Int) : (prodR p a b).length ≤ a.length + b.length := Nat.le_trans (trim_len _) (by simp [zipR])
/-! ### endless sums: one, what can be undone, what is cancelled -/
theorem mulS_one (f : Nat → Int) (n : Nat) : mulS (ati [1]) f n = f n := by
  unfold mulS
  rw [sm_shift]
  have e : sm (fun i => ati [1] (i + 1) * f (n - (i + 1))) n = 0 := sm_zero fun i _ => by
    rw [ati_ge (by simp), Int.zero_mul]
  rw [e, Int.add_zero, Nat.sub_zero, show ati [1] 0 = 1 from rfl, Int.one_mul]
theorem mulS_head (f g : Nat → Int) (n : Nat) : mulS f g n = f 0 * g n + sm (fun i => f (i + 1) * g (n - (i + 1))) n := by
  unfold mulS
  rw [sm_shift, Nat.sub_zero]
/-- alike up to N -/
def CgN (p : Int) (N : Nat) (f g : Nat → Int) : Prop := ∀ n, n < N → f n % p = g n % p
theorem CgN.of {p : Int} {N : Nat} {f g : Nat → Int} (h : Cg p f g) : CgN p N f g := fun n _ => h n
theorem CgN.refl {p : Int} {N : Nat} (f : Nat → Int) : CgN p N f f := fun _ _ => rfl
theorem CgN.symm {p : Int} {N : Nat} {f g : Nat → Int} (h : CgN p N f g) : CgN p N g f := fun n hn => (h n hn).symm
theorem CgN.trans {p : Int} {N : Nat} {f g h : Nat → Int} (a : CgN p N f g) (b : CgN p N g h) : CgN p N f h := fun n hn => (a n hn).trans (b n hn)
theorem CgN.mul {p : Int} {N : Nat} {f f' g g' : Nat → Int} (a : CgN p N f f') (b : CgN p N g g') : CgN p N (mulS f g) (mulS f' g') := fun n hn => sm_mod fun i hi => by rw [Int.mul_emod, a i (by omega), b (n - i) (by omega), ← Int.mul_emod]
theorem CgN.all {p : Int} {f g : Nat → Int} (h : ∀ N, CgN p N f g) : Cg p f g := fun n => h (n + 1) n (Nat.lt_succ_self n)
theorem mod_sub {p x y : Int} : x % p = y % p ↔ (x - y) % p = 0 := by
  constructor
  · intro h
    rw [Int.sub_emod, h, Int.sub_self]; rfl
  · intro h
    have h2 : x = y + (x - y) := by omega
    rw [h2, Int.add_emod, h, Int.add_zero, Int.emod_emod]
/-- times what can be undone: x c = y c, so x = y -/
theorem undo_mod {p c i x y : Int} (hi : c * i % p = 1) (h : c * x % p = c * y % p) : x % p = y % p := by
  have e : ∀ z : Int, (i * (c * z)) % p = z % p := fun z => by
    rw [← Int.mul_assoc, Int.mul_comm i c, Int.mul_emod, hi, Int.one_mul, Int.emod_emod]
  rw [← e x, ← e y, Int.mul_emod, h, ← Int.mul_emod]
theorem CgN.cancel {p i : Int} {N : Nat} {b f g : Nat → Int} (hi : b 0 * i % p = 1) (h : CgN p N (mulS b f) (mulS b g)) : CgN p N f g := by
  intro n
  induction n using Nat.strongRecOn with
  | ind n ih =>
    intro hn
    have h1 := h n hn
    rw [mulS_head, mulS_head] at h1
    have e : sm (fun i => b (i + 1) * f (n - (i + 1))) n % p = sm (fun i => b (i + 1) * g (n - (i + 1))) n % p := sm_mod fun i hi' => by
      rw [Int.mul_emod, ih (n - (i + 1)) (by omega) (by omega), ← Int.mul_emod]
    refine undo_mod hi ?_
    have k := mod_sub.mp h1
    have k2 := mod_sub.mp e
    refine mod_sub.mpr ?_
    generalize sm (fun i => b (i + 1) * f (n - (i + 1))) n = S at k k2
    generalize sm (fun i => b (i + 1) * g (n - (i + 1))) n = S' at k k2
    have e3 : b 0 * f n - b 0 * g n = (b 0 * f n + S - (b 0 * g n + S')) - (S - S') := by omega
    rw [e3, Int.sub_emod, k, k2]; rfl
theorem Cg.ucancel {p i : Int} {b f g : Nat → Int} (hi : b 0 * i % p = 1) (h : Cg p (mulS b f) (mulS b g)) : Cg p f g := CgN.all fun N => CgN.cancel (N := N) hi (.of h)
theorem inv_of {p c : Int} (hp : Pr p) (h0 : 0 ≤ c) (h1 : c < p) (hn : c ≠ 0) : ∃ i : Int, 0 ≤ i ∧ i < p ∧ c * i % p = 1 := by
  obtain ⟨i, hi, e⟩ := inv_ex hp (show 0 < c by omega) h1
  exact ⟨i, by omega, hi, e⟩
theorem one_mod {p : Int} (hp : Pr p) : (1 : Int) % p = 1 := Int.emod_eq_of_lt (by decide) (by rcases hp with h | h | h <;> omega)
theorem In.eq {p : Int} {a b : List Int} (hp : 0 < p) (ia : In p a) (ta : Tr a) (ib : In p b) (tb : Tr b) (h : Cg p (ati a) (ati b)) : a = b := Tr.ext ta tb fun n => by
  have h1 := ia.at hp n
  have h2 := ib.at hp n
  have h3 := h n
  rwa [Int.emod_eq_of_lt h1.1 h1.2, Int.emod_eq_of_lt h2.1 h2.2] at h3
/-- what ends, times what isn't the nought -/
theorem fin_zero {p : Int} {g : List Int} (hp : Pr p) (ig : In p g) (tg : Tr g) (hg : g ≠ []) {f : Nat → Int} (ff : Fs f) (h : ∀ n, mulS (ati g) f n % p = 0) : ∀ n, f n % p = 0 := by
  obtain ⟨t, ht⟩ := ff.list
  have hp0 := hp.pos
  by_cases hr : redP p t = []
  · intro n
    have := red_cg (p := p) t n
    rw [hr, ati_nil, Int.zero_emod] at this
    rw [← ht, ← this]
  · exfalso
    have h1 := prod_top hp ig (red_in hp0 t) tg (red_tr t) hg hr
    apply h1
    rw [cv_mulS, (Cg.refl (ati g)).mul (red_cg t) _, ← h (g.length + (redP p t).length - 2)]
    congr 1
    exact sm_congr fun i _ => by rw [ht]
theorem fin_cancel {p : Int} {g : List Int} (hp : Pr p) (ig : In p g) (tg : Tr g) (hg : g ≠ []) {f h : Nat → Int} (ff : Fs f) (fh : Fs h) (e : Cg p (mulS (ati g) f) (mulS (ati g) h)) : Cg p f h := fun n => by
  have z := fin_zero hp ig tg hg (ff.add (fh.scal (-1))) (fun n => by
    rw [mulS_add, mulS_scal]
    have := mod_sub.mp (e n)
    rw [← this]
    congr 1; omega) n
  refine mod_sub.mpr ?_
  rw [← z]
  show (f n - h n) % p = (f n + -1 * h n) % p
  congr 1; omega
theorem Cg.fn {p : Int} {f f' : Nat → Int} (h : ∀ n, f n = f' n) : Cg p f f' := fun n => by rw [h]
theorem Cg.comm {p : Int} (f g : Nat → Int) : Cg p (mulS f g) (mulS g f) := .fn fun n => mulS_comm f g n
theorem Cg.assoc {p : Int} (f g h : Nat → Int) : Cg p (mulS (mulS f g) h) (mulS f (mulS g h)) := .fn fun n => mulS_assoc f g h n
/-- f (g h) = g (f h) -/
theorem Cg.swap {p : Int} (f g h : Nat → Int) : Cg p (mulS f (mulS g h)) (mulS g (mulS f h)) := ((Cg.assoc f g h).symm.trans ((Cg.comm f g).mul (.refl h))).trans (.assoc g f h)
/-! ### rows in least form -/
structure RowN (p : Int) (T B : List Int) : Prop where
  iT : In p T
  tT : Tr T
  iB : In p B
  tB : Tr B
  b0 : ati B 0 = 1
  lc : Lc p T B [1]
theorem ne_of0 {B : List Int} {c : Int} (h : ati B 0 = c) (hc : c ≠ 0) : B ≠ [] := fun z => by
  subst z
  rw [ati_nil] at h
  exact hc h.symm
theorem RowN.ne {p : Int} {T B : List Int} (h : RowN p T B) : B ≠ [] := ne_of0 h.b0 (by decide)
/-- the row of a over b, b begun with what isn't 0 -/
structure RowOf (p : Int) (a b T B : List Int) : Prop extends RowN p T B where
  cross : Cg p (mulS (ati T) (ati b)) (mulS (ati a) (ati B))
  lT : T.length ≤ a.length
  lB : B.length ≤ b.length
/-- B goes into C where they are crossed -/
theorem cross_dv {p : Int} (hp : 0 < p) {T B T' B' : List Int} (n : RowN p T B) (h : Cg p (mulS (ati T) (ati B')) (mulS (ati T') (ati B))) : Dv p B B' := by
  obtain ⟨u, v, fu, fv, e⟩ := n.lc
  refine Dv.of hp (f := fun k => mulS u (ati T') k + mulS v (ati B') k) ((fu.mul (.ati T')).add (fv.mul (.ati B'))) ?_
  have e1 : Cg p (mulS (fun n => mulS (ati T) u n + mulS (ati B) v n) (ati B')) (mulS (ati [1]) (ati B')) := e.mul (.refl _)
  have e2 : Cg p (mulS (ati [1]) (ati B')) (ati B') := .fn fun n => mulS_one _ n
  refine Cg.trans ?_ (e1.trans e2)
  refine Cg.trans (fun n => by rw [mulS_add]) (Cg.trans ?_ (fun n => by rw [mulS_addR]))
  refine Cg.add ?_ ?_
  · -- B (u T') = (T u) B'
    refine (Cg.swap (ati B) u (ati T')).trans ?_
    refine ((Cg.refl u).mul ((Cg.comm (ati B) (ati T')).trans h.symm)).trans ?_
    refine (Cg.assoc u (ati T) (ati B')).symm.trans ?_
    exact (Cg.comm u (ati T)).mul (.refl _)
  · exact (Cg.assoc _ _ _).symm
theorem row_unique {p : Int} {T B T' B' : List Int} (hp : Pr p) (n : RowN p T B) (n' : RowN p T' B') (h : Cg p (mulS (ati T) (ati B')) (mulS (ati T') (ati B))) : T = T' ∧ B = B' := by
  have hp0 := hp.pos
  have d1 := cross_dv hp0 n h
  have d2 := cross_dv hp0 n' h.symm
  have l1 := d1.len hp n.iB n.tB n'.iB n'.tB n'.ne n.ne
  have l2 := d2.len hp n'.iB n'.tB n.iB n.tB n.ne n'.ne
  obtain ⟨t, it, tt, e⟩ := d1
  have hl : B.length = B'.length := by omega
  have lB := List.length_pos_iff.mpr n.ne
  have ht : t ≠ [] := by
    intro z
    subst z
    have z : cv B [] 0 = 0 := by rw [cv_comm]; rfl
    have h3 := e 0
    rw [z, n'.b0, Int.zero_emod, one_mod hp] at h3
    cases h3
  have lt := List.length_pos_iff.mpr ht
  have h3 := prod_top hp n.iB it n.tB tt n.ne ht
  have lt1 : t.length = 1 := by
    apply Classical.byContradiction
    intro hn
    rw [e, ati_ge (show B'.length ≤ B.length + t.length - 2 by omega)] at h3
    exact h3 (Int.zero_emod p)
  obtain ⟨c, rfl⟩ : ∃ c, t = [c] := by
    cases t with
    | nil => cases lt1
    | cons c r => cases r with
      | nil => exact ⟨c, rfl⟩
      | cons => simp at lt1
  have cvc : ∀ n, cv B [c] n = c * ati B n := fun n => by
    rw [cv_comm]
    unfold cv
    show 0 + ati [c] 0 * sh B n 0 = _
    unfold sh
    rw [if_pos (Nat.zero_le _), Nat.sub_zero, Int.zero_add]; rfl
  have hc := it c List.mem_cons_self
  have c1 : c = 1 := by
    have h4 := e 0
    rw [cvc, n.b0, Int.mul_one, n'.b0, one_mod hp, Int.emod_eq_of_lt hc.1 hc.2] at h4
    exact h4
  have eB : B = B' := In.eq hp0 n.iB n.tB n'.iB n'.tB fun k => by rw [← e k, cvc, c1, Int.one_mul]
  subst eB
  refine ⟨In.eq hp0 n.iT n.tT n'.iT n'.tT ?_, rfl⟩
  refine fin_cancel hp n.iB n.tB n.ne (.ati _) (.ati _) ?_
  exact (Cg.comm _ _).trans (h.trans (.comm _ _))
/-- two rows are one just where the fractions are crossed -/
theorem rows_iff {p : Int} {a b T B a' b' T' B' : List Int} (hp : Pr p) (r : RowOf p a b T B) (r' : RowOf p a' b' T' B') (hb : In p b ∧ Tr b ∧ b ≠ []) (hb' : In p b' ∧ Tr b' ∧ b' ≠ []) :
    (T = T' ∧ B = B') ↔ Cg p (mulS (ati a) (ati b')) (mulS (ati a') (ati b)) := by
  constructor
  · rintro ⟨rfl, rfl⟩
    refine fin_cancel hp r.iB r.tB r.ne ((Fs.ati _).mul (.ati _)) ((Fs.ati _).mul (.ati _)) ?_
    -- B (a b') = (a B) b' = T b b' = (a' B) b
    have e1 : Cg p (mulS (ati B) (mulS (ati a) (ati b'))) (mulS (mulS (ati T) (ati b)) (ati b')) := (Cg.assoc _ _ _).symm.trans (((Cg.comm _ _).trans r.cross.symm).mul (.refl _))
    have e2 : Cg p (mulS (ati B) (mulS (ati a') (ati b))) (mulS (mulS (ati T) (ati b')) (ati b)) := (Cg.assoc _ _ _).symm.trans (((Cg.comm _ _).trans r'.cross.symm).mul (.refl _))
    refine e1.trans (Cg.trans ?_ e2.symm)
    exact (Cg.assoc _ _ _).trans (((Cg.refl _).mul (.comm _ _)).trans (Cg.assoc _ _ _).symm)
  · intro h
    refine row_unique hp r.toRowN r'.toRowN ?_
    refine fin_cancel hp hb.1 hb.2.1 hb.2.2 ((Fs.ati _).mul (.ati _)) ((Fs.ati _).mul (.ati _)) ?_
    refine fin_cancel hp hb'.1 hb'.2.1 hb'.2.2 ((Fs.ati _).mul ((Fs.ati _).mul (.ati _))) ((Fs.ati _).mul ((Fs.ati _).mul (.ati _))) ?_
    -- b' (b (T B')) = (T b) (b' B') ~ (a B) (b' B') = (a b') (B B')
    have k1 : Cg p (mulS (ati b') (mulS (ati b) (mulS (ati T) (ati B')))) (mulS (mulS (ati a) (ati b')) (mulS (ati B) (ati B'))) := by
      refine ((Cg.refl _).mul (Cg.assoc _ _ _).symm).trans ?_
      refine ((Cg.refl _).mul (((Cg.comm _ _).trans r.cross).mul (.refl _))).trans ?_
      refine ((Cg.refl _).mul (Cg.assoc _ _ _)).trans ?_
      exact (Cg.assoc _ _ _).symm.trans ((Cg.comm _ _).mul (.refl _))
    have k2 : Cg p (mulS (ati b') (mulS (ati b) (mulS (ati T') (ati B)))) (mulS (mulS (ati a') (ati b)) (mulS (ati B) (ati B'))) := by
      refine (Cg.swap _ _ _).trans ?_
      refine ((Cg.refl _).mul (Cg.assoc _ _ _).symm).trans ?_
      refine ((Cg.refl _).mul (((Cg.comm _ _).trans r'.cross).mul (.refl _))).trans ?_
      refine ((Cg.refl _).mul (Cg.assoc _ _ _)).trans ?_
      refine (Cg.assoc _ _ _).symm.trans ?_
      exact (Cg.comm _ _).mul (.comm _ _)
    exact k1.trans ((h.mul (.refl _)).trans k2.symm)
/-- how a row's least form comes: g the common part, t1 and t2 what is left of both -/
theorem row_of {p i : Int} {a b g t1 r1 t2 r2 : List Int} (hp : Pr p) (ia : In p a) (ta : Tr a) (ib : In p b) (tb : Tr b) (hb : ati b 0 ≠ 0) (c : Com p a b g) (d1 : Div p a g t1 r1) (d2 : Div p b g t2 r2) (i0 : 0 ≤ i) (i1 : i < p) (hi : ati t2 0 * i % p = 1) :
    RowOf p a b (trim (t1.map fun x => x * i % p)) (trim (t2.map fun x => x * i % p)) := by
  have hp0 := hp.pos
  have hbn : b ≠ [] := ne_of0 rfl hb
  have mg := c.mo fun z => hbn z.2
  have z1 : r1 = [] := (d1.dr hp0 c.da (.refl hp0 g)).short hp c.ig c.tg mg.1 d1.ir d1.tr d1.lt
  have z2 : r2 = [] := (d2.dr hp0 c.db (.refl hp0 g)).short hp c.ig c.tg mg.1 d2.ir d2.tr d2.lt
  subst z1 z2
  have e1 : Cg p (mulS (ati g) (ati t1)) (ati a) := fun n => by
    have := d1.cg n
    dsimp only at this
    rwa [ati_nil, Int.add_zero] at this
  have e2 : Cg p (mulS (ati g) (ati t2)) (ati b) := fun n => by
    have := d2.cg n
    dsimp only at this
    rwa [ati_nil, Int.add_zero] at this
  have at_ : ∀ (t : List Int) k, ati (trim (t.map fun z => z * i % p)) k = i * ati t k % p := fun t k => by
    rw [ati_trim, ati_map (f := fun z => z * i % p) (by show 0 * i % p = 0; rw [Int.zero_mul, Int.zero_emod]), Int.mul_comm]
  have sc : ∀ t : List Int, Cg p (ati (trim (t.map fun z => z * i % p))) (fun k => i * ati t k) := fun t k => by rw [at_, Int.emod_emod]
  have inn : ∀ t : List Int, In p (trim (t.map fun z => z * i % p)) := fun t => In.trim fun z hz => by
    obtain ⟨w, _, rfl⟩ := List.mem_map.mp hz
    exact ⟨Int.emod_nonneg _ (by omega), Int.emod_lt_of_pos _ hp0⟩
  have cross0 : Cg p (mulS (ati t1) (ati b)) (mulS (ati a) (ati t2)) := by
    refine ((Cg.refl _).mul e2.symm).trans ?_
    refine (Cg.swap _ _ _).trans ?_
    exact (Cg.assoc _ _ _).symm.trans (e1.mul (.refl _))
  have le : ∀ t : List Int, (trim (t.map fun z => z * i % p)).length ≤ t.length := fun t => Nat.le_trans (trim_len _) (by simp)
  refine ⟨⟨inn _, trim_trim _, inn _, trim_trim _, ?_, ?_⟩, ?_, Nat.le_trans (le _) d1.le, Nat.le_trans (le _) d2.le⟩
  · rw [at_, Int.mul_comm]; exact hi
  · -- u a + v b = g, so u t1 + v t2 = 1
    obtain ⟨u, v, fu, fv, e⟩ := c.lc
    have k : Cg p (fun n => mulS (ati t1) u n + mulS (ati t2) v n) (ati [1]) := by
      refine fin_cancel hp c.ig c.tg mg.1 (((Fs.ati _).mul fu).add ((Fs.ati _).mul fv)) (.ati _) ?_
      refine Cg.trans (fun n => by rw [mulS_add]) ?_
      refine Cg.trans (Cg.add ((Cg.assoc _ _ _).symm.trans (e1.mul (.refl _))) ((Cg.assoc _ _ _).symm.trans (e2.mul (.refl _)))) ?_
      refine e.trans ?_
      exact (Cg.trans (.comm _ _) (.fn fun n => mulS_one _ n)).symm
    refine ⟨fun m => ati t2 0 * u m, fun m => ati t2 0 * v m, fu.scal _, fv.scal _, ?_⟩
    refine Cg.trans (Cg.add ((sc t1).mul (.refl _)) ((sc t2).mul (.refl _))) (Cg.trans (fun n => ?_) k)
    have m1 : ∀ (x w : Nat → Int), mulS (fun k => i * x k) (fun m => ati t2 0 * w m) n = (ati t2 0 * i) * mulS x w n := fun x w => by
      rw [mulS_scal, mulS_comm, mulS_scal, mulS_comm, ← Int.mul_assoc]
    show (mulS _ _ n + mulS _ _ n) % p = _
    rw [m1, m1, ← Int.mul_add, Int.mul_emod, hi, Int.one_mul, Int.emod_emod]
  · refine ((sc t1).mul (.refl _)).trans (Cg.trans (fun n => ?_) ((Cg.refl _).mul (sc t2).symm))
    have q1 : mulS (fun k => i * ati t1 k) (ati b) n = i * mulS (ati t1) (ati b) n := by rw [mulS_comm, mulS_scal, mulS_comm]
    rw [q1, mulS_scal, Int.mul_emod, cross0 n, ← Int.mul_emod]
/-- the first beads of a over b -/
def Beads (p : Int) (a b s : List Int) : Prop := In p s ∧ ∀ k, k < s.length → mulS (ati b) (ati s) k % p = ati a k % p
theorem Beads.eq {p : Int} {a b s s' : List Int} (hp : Pr p) (ib : In p b) (hb : ati b 0 ≠ 0) (h : Beads p a b s) (h' : Beads p a b s') (hl : s.length = s'.length) : s = s' := by
  have h0 := ib.at hp.pos 0
  obtain ⟨i, _, _, hi⟩ := inv_of hp h0.1 h0.2 hb
  have e : CgN p s.length (ati s) (ati s') := CgN.cancel (b := ati b) hi fun n hn => (h.2 n hn).trans (h'.2 n (by omega)).symm
  apply List.ext_getElem hl
  intro k h1 h2
  have h3 := e k h1
  have a1 := h.1.at hp.pos k
  have a2 := h'.1.at hp.pos k
  rw [Int.emod_eq_of_lt a1.1 a1.2, Int.emod_eq_of_lt a2.1 a2.2] at h3
  unfold ati at h3
  simpa [h1, h2] using h3
theorem zero_beyond {a b : List Int} {n : Nat} (h : a.length + b.length ≤ n + 1) : mulS (ati a) (ati b) n = 0 := by
  rw [← cv_mulS]; exact cv_ge a b n h
/-- the first beads of two fractions are alike, enough of them: they are crossed; and back -/
theorem beads_iff {p : Int} {a b a' b' s s' : List Int} (hp : Pr p) (ib : In p b) (hb : ati b 0 ≠ 0) (ib' : In p b') (hb' : ati b' 0 ≠ 0) (h : Beads p a b s) (h' : Beads p a' b' s') (hl : s.length = s'.length) (ha : a.length + b'.length ≤ s.length + 1) (ha' : a'.length + b.length ≤ s.length + 1) :
    s = s' ↔ Cg p (mulS (ati a) (ati b')) (mulS (ati a') (ati b)) := by
  have h0 := ib.at hp.pos 0
  obtain ⟨i, _, _, hi⟩ := inv_of hp h0.1 h0.2 hb
  have h0' := ib'.at hp.pos 0
  obtain ⟨i', _, _, hi'⟩ := inv_of hp h0'.1 h0'.2 hb'
  constructor
  · rintro rfl n
    by_cases hn : n < s.length
    · have k1 : CgN p s.length (mulS (ati a) (ati b')) (mulS (mulS (ati b) (ati s)) (ati b')) := CgN.mul (CgN.symm fun n hn => h.2 n hn) (.refl _)
      have k2 : CgN p s.length (mulS (ati a') (ati b)) (mulS (mulS (ati b') (ati s)) (ati b)) := CgN.mul (CgN.symm fun n hn => h'.2 n hn) (.refl _)
      refine (k1 n hn).trans (Eq.trans ?_ (k2 n hn).symm)
      have : Cg p (mulS (mulS (ati b) (ati s)) (ati b')) (mulS (mulS (ati b') (ati s)) (ati b)) := by
        refine (Cg.comm _ _).trans ((Cg.swap _ _ _).trans ?_)
        exact (Cg.comm _ _)
      exact this n
    · rw [zero_beyond (by omega), zero_beyond (by omega)]
  · intro e
    have k : CgN p s.length (ati s) (ati s') := by
      refine CgN.cancel (b := ati b) hi (CgN.cancel (b := ati b') hi' ?_)
      have k1 : CgN p s.length (mulS (ati b') (mulS (ati b) (ati s))) (mulS (ati a) (ati b')) := (CgN.mul (.refl _) fun n hn => h.2 n hn).trans (.of (.comm _ _))
      have k2 : CgN p s.length (mulS (ati b') (mulS (ati b) (ati s'))) (mulS (ati a') (ati b)) := (CgN.of (.swap _ _ _)).trans ((CgN.mul (.refl _) fun n hn => h'.2 n (by omega)).trans (.of (.comm _ _)))
      exact k1.trans ((CgN.of e).trans k2.symm)
    apply List.ext_getElem hl
    intro j h1 h2
    have h3 := k j h1
    have a1 := h.1.at hp.pos j
    have a2 := h'.1.at hp.pos j
    rw [Int.emod_eq_of_lt a1.1 a1.2, Int.emod_eq_of_lt a2.1 a2.2] at h3
    unfold ati at h3
    simpa [h1, h2] using h3
end DL

set_option Elab.async false
set_option linter.all false
set_option maxRecDepth 100000
set_option maxHeartbeats 400000
namespace DL
open PySem PySem.Spec PyProof.Rows L2
open PySem.W (Frag)
variable [TB]
/-! ### things of small size -/
structure Rw (ds : List D) (k w : Nat) : Prop where
  d : isDs ds = true
  s : PyData.showableAll (toPys ds) = true
  i : PyData.intsShortAll 40 (toPys ds) = true
  p : PyData.depthAll (toPys ds) ≤ k
  w : PyData.weightAll (toPys ds) ≤ w
theorem toPys_app : ∀ a b : List D, toPys (a ++ b) = toPys a ++ toPys b
  | [], _ => rfl
  | x :: a, b => by show toPy x :: toPys (a ++ b) = toPy x :: (toPys a ++ toPys b); rw [toPys_app a b]
theorem isDs_app : ∀ a b : List D, isDs (a ++ b) = (isDs a && isDs b)
  | [], _ => rfl
  | x :: a, b => by show (isD x && isDs (a ++ b)) = ((isD x && isDs a) && isDs b); rw [isDs_app a b, Bool.and_assoc]
theorem shAll_app : ∀ a b : List PyData, PyData.showableAll (a ++ b) = (PyData.showableAll a && PyData.showableAll b)
  | [], _ => rfl
  | x :: a, b => by show (PyData.showable x && PyData.showableAll (a ++ b)) = ((PyData.showable x && PyData.showableAll a) && PyData.showableAll b); rw [shAll_app a b, Bool.and_assoc]
theorem isAll_app : ∀ a b : List PyData, PyData.intsShortAll 40 (a ++ b) = (PyData.intsShortAll 40 a && PyData.intsShortAll 40 b)
  | [], _ => rfl
  | x :: a, b => by show (PyData.intsShort 40 x && PyData.intsShortAll 40 (a ++ b)) = ((PyData.intsShort 40 x && PyData.intsShortAll 40 a) && PyData.intsShortAll 40 b); rw [isAll_app a b, Bool.and_assoc]
theorem dpAll_app : ∀ a b : List PyData, PyData.depthAll (a ++ b) = max (PyData.depthAll a) (PyData.depthAll b)
  | [], b => by show PyData.depthAll b = max 0 _; omega
  | x :: a, b => by show max (PyData.depth x) (PyData.depthAll (a ++ b)) = max (max (PyData.depth x) (PyData.depthAll a)) _; rw [dpAll_app a b]; omega
theorem wtAll_app : ∀ a b : List PyData, PyData.weightAll (a ++ b) = PyData.weightAll a + PyData.weightAll b
  | [], b => by show PyData.weightAll b = 0 + _; omega
  | x :: a, b => by show PyData.weight x + 1 + PyData.weightAll (a ++ b) = PyData.weight x + 1 + PyData.weightAll a + _; rw [wtAll_app a b]; omega
theorem Rw.app {a b : List D} {k w v : Nat} (ha : Rw a k w) (hb : Rw b k v) : Rw (a ++ b) k (w + v) :=
  ⟨by rw [isDs_app, ha.d, hb.d]; rfl, by rw [toPys_app, shAll_app, ha.s, hb.s]; rfl, by rw [toPys_app, isAll_app, ha.i, hb.i]; rfl, by rw [toPys_app, dpAll_app]; have := ha.p; have := hb.p; omega, by rw [toPys_app, wtAll_app]; have := ha.w; have := hb.w; omega⟩
theorem Rw.both {a b : List D} {k w : Nat} (h : Rw (a ++ b) k w) : Rw a k w ∧ Rw b k w := by
  obtain ⟨d, s, i, p, z⟩ := h
  rw [isDs_app, Bool.and_eq_true] at d
  rw [toPys_app, shAll_app, Bool.and_eq_true] at s
  rw [toPys_app, isAll_app, Bool.and_eq_true] at i
  rw [toPys_app, dpAll_app] at p
  rw [toPys_app, wtAll_app] at z
  exact ⟨⟨d.1, s.1, i.1, by omega, by omega⟩, ⟨d.2, s.2, i.2, by omega, by omega⟩⟩
theorem Rw.take {a : List D} {k w : Nat} (h : Rw a k w) (n : Nat) : Rw (a.take n) k w := (Rw.both (a := a.take n) (b := a.drop n) (by rw [List.take_append_drop]; exact h)).1
theorem Rw.drop {a : List D} {k w : Nat} (h : Rw a k w) (n : Nat) : Rw (a.drop n) k w := (Rw.both (a := a.take n) (b := a.drop n) (by rw [List.take_append_drop]; exact h)).2
theorem Rw.cut {a : List D} {k w : Nat} (h : Rw a k w) (lo hi : Option Int) : Rw (cutG a lo hi) k w := (h.drop _).take _
theorem Rw.mono {a : List D} {k w j v : Nat} (h : Rw a k w) (h1 : k ≤ j) (h2 : w ≤ v) : Rw a j v := ⟨h.d, h.s, h.i, Nat.le_trans h.p h1, Nat.le_trans h.w h2⟩
theorem len_le_weight : ∀ xs : List PyData, xs.length ≤ PyData.weightAll xs
  | [] => Nat.le_refl _
  | x :: xs => by
    have := len_le_weight xs
    show xs.length + 1 ≤ PyData.weight x + 1 + PyData.weightAll xs
    omega
theorem toPys_len : ∀ ds : List D, (toPys ds).length = ds.length
  | [] => rfl
  | d :: ds => by show (toPys ds).length + 1 = _; rw [toPys_len ds]; rfl
theorem Rw.len {a : List D} {k w : Nat} (h : Rw a k w) : a.length ≤ w := by
  have := len_le_weight (toPys a)
  rw [toPys_len] at this
  exact Nat.le_trans this h.w
theorem Rw.tup {a : List D} {k w : Nat} (h : Rw a k w) : Rw [.tup a] (k + 1) (w + 1) := by
  refine ⟨?_, ?_, ?_, ?_, ?_⟩
  · show (isDs a && true) = true; rw [h.d]; rfl
  · show (PyData.showableAll (toPys a) && true) = true; rw [h.s]; rfl
  · show (PyData.intsShortAll 40 (toPys a) && true) = true; rw [h.i]; rfl
  · show max (PyData.depthAll (toPys a) + 1) 0 ≤ _; have := h.p; omega
  · show PyData.weightAll (toPys a) + 1 + 0 ≤ _; have := h.w; omega
theorem Rw.lst {a : List D} {k w : Nat} (h : Rw a k w) : Rw [.lst a] (k + 1) (w + 1) := by
  refine ⟨?_, ?_, ?_, ?_, ?_⟩
  · show (isDs a && true) = true; rw [h.d]; rfl
  · show (PyData.showableAll (toPys a) && true) = true; rw [h.s]; rfl
  · show (PyData.intsShortAll 40 (toPys a) && true) = true; rw [h.i]; rfl
  · show max (PyData.depthAll (toPys a) + 1) 0 ≤ _; have := h.p; omega
  · show PyData.weightAll (toPys a) + 1 + 0 ≤ _; have := h.w; omega
theorem Rw.untup {a : List D} {k w : Nat} (h : Rw [.tup a] k w) : Rw a k w := by
  obtain ⟨d, s, i, p, z⟩ := h
  have d' : (isDs a && true) = true := d
  have s' : (PyData.showableAll (toPys a) && true) = true := s
  have i' : (PyData.intsShortAll 40 (toPys a) && true) = true := i
  have p' : max (PyData.depthAll (toPys a) + 1) 0 ≤ k := p
  have z' : PyData.weightAll (toPys a) + 1 + 0 ≤ w := z
  rw [Bool.and_true] at d' s' i'
  exact ⟨d', s', i', by omega, by omega⟩
theorem Rw.mem {a : List D} {k w : Nat} (h : Rw a k w) {x : D} (hx : x ∈ a) : Rw [x] k w := by
  obtain ⟨l, r, rfl⟩ := List.append_of_mem hx
  have h2 := (Rw.both (a := l) (b := x :: r) h).2
  exact (Rw.both (a := [x]) (b := r) h2).1
theorem Rw.ok {x : D} {k w : Nat} (h : Rw [x] k w) (hk : k ≤ 64) (hw : 42 * w ≤ 999000) : rpOk x := by
  obtain ⟨d, s, i, p, z⟩ := h
  have d' : (isD x && true) = true := d
  have s' : (PyData.showable (toPy x) && true) = true := s
  have i' : (PyData.intsShort 40 (toPy x) && true) = true := i
  have p' : max (PyData.depth (toPy x)) 0 ≤ k := p
  have z' : PyData.weight (toPy x) + 1 + 0 ≤ w := z
  rw [Bool.and_true] at d' s' i'
  have ok : okD x = true := by unfold okD; rw [d', decide_eq_true (show (toPy x).depth ≤ 64 by omega)]; rfl
  refine ⟨ok, s', ?_⟩
  have := PyData.shown_le 40 (by decide) _ (PyData.leavesShort_of_canLay0 40 _ (canLay_toPy x d') i')
  have h2 : (40 + 2) * (toPy x).weight ≤ 42 * w := Nat.mul_le_mul_left _ (by omega)
  omega
theorem small_short : ∀ i : Nat, i < 8 → PyData.intsShort 40 (.int (i : Int)) = true ∧ PyData.weight (.int (i : Int)) ≤ 3 := by decide +kernel
theorem Rw.ints : ∀ {ns : List Int}, (∀ x ∈ ns, 0 ≤ x ∧ x < 8) → Rw (dI ns) 0 (4 * ns.length)
  | [], _ => ⟨rfl, rfl, rfl, Nat.le_refl _, Nat.le_refl _⟩
  | n :: ns, h => by
    obtain ⟨j, rfl⟩ : ∃ j : Nat, n = (j : Int) := ⟨n.toNat, by have := (h n List.mem_cons_self).1; omega⟩
    have hj := (h (j : Int) List.mem_cons_self).2
    obtain ⟨h1, h2⟩ := small_short j (by omega)
    have h3 : Rw [.int (j : Int)] 0 4 := ⟨rfl, by
      show (decide ((j : Int).natAbs.log2 < 1920) && true) = true
      have : (j : Int).natAbs.log2 < 40 := small_log (Nat.lt_trans (show (j : Int).natAbs < 8 by omega) (by decide +kernel))
      rw [decide_eq_true (by omega)]; rfl, by show (PyData.intsShort 40 (.int (j : Int)) && true) = true; rw [h1]; rfl, Nat.le_refl _, by show PyData.weight (.int (j : Int)) + 1 + 0 ≤ 4; omega⟩
    have h4 := h3.app (Rw.ints fun x hx => h x (List.mem_cons_of_mem _ hx))
    exact h4.mono (Nat.le_refl _) (by rw [List.length_cons]; omega)
/-- things that are told by a text of figures -/
def dg (p : Int) : D → Bool
  | .int i => decide (0 ≤ i ∧ i < p)
  | _ => false
theorem dig_inj : ∀ i : Nat, i < 10 → ∀ c : Nat, c < 10 → (Str.ofString (toString (i : Int)) = Str.ofString (toString (c : Int)) → i = c) ∧ (Str.ofString (toString (c : Int))).length = 1 := by decide +kernel
theorem int_one {i : Int} (h : (Str.ofString (toString i)).length = 1) : 0 ≤ i ∧ i < 10 := by
  rw [PySem.ofString_length] at h
  have e : toString i = i.repr := rfl
  rw [e, Int.repr_eq_if] at h
  split at h
  · rename_i h0
    refine ⟨h0, ?_⟩
    have := (Nat.length_repr_le_iff (n := i.toNat) (k := 1) (by decide)).mp (by omega)
    omega
  · rename_i h0
    rw [String.length_append] at h
    have h1 : "-".length = 1 := rfl
    have h2 := Nat.length_repr_pos (n := (-i).toNat)
    omega
theorem text_long {x : D} (hd : isD x = true) (hi : ∀ i, x ≠ .int i) : (toPy x).shown.length ≠ 1 := by
  cases x with
  | non => decide +kernel
  | bl b => cases b <;> decide +kernel
  | int i => exact absurd rfl (hi i)
  | str y =>
    have := StrLaws.reprText_ge2 y
    show (PyData.str y).shown.length ≠ 1
    rw [PyData.shown_str]; omega
  | tup ds =>
    show (PyData.tuple (toPys ds)).shown.length ≠ 1
    simp only [PyData.shown]
    unfold tupleText
    rw [strLen_append, strLen_append]
    have e1 : ((("(" : String) : Str)).length = 1 := rfl
    have e3 : 1 ≤ (((if (PyData.shownAll (toPys ds)).length == 1 then ",)" else ")" : String) : Str)).length := by split <;> decide
    omega
  | lst ds =>
    show (PyData.list (toPys ds)).shown.length ≠ 1
    simp only [PyData.shown]
    unfold listText
    rw [strLen_append]
    have e1 : ((("]" : String) : Str)).length = 1 := rfl
    have := (textFrom_len (PyData.shownAll (toPys ds)) 0 "[").2.2
    have e2 : ((("[" : String) : Str)).length = 1 := rfl
    omega
  | lsf ds =>
    show (PyData.list (toPys ds)).shown.length ≠ 1
    simp only [PyData.shown]
    unfold listText
    rw [strLen_append]
    have e1 : ((("]" : String) : Str)).length = 1 := rfl
    have := (textFrom_len (PyData.shownAll (toPys ds)) 0 "[").2.2
    have e2 : ((("[" : String) : Str)).length = 1 := rfl
    omega
  | _ => cases hd
theorem dig_any {x : D} {p : Int} (hd : isD x = true) (hp : p ≤ 10) : (((List.range p.toNat).map fun c : Nat => D.str (Str.ofString (toString (c : Int)))).any fun d => eqD d (.str (toPy x).shown)) = dg p x := by
  have e : ∀ a b : Str, eqD (.str a) (.str b) = (a == b) := fun _ _ => rfl
  rw [Bool.eq_iff_iff]
  simp only [List.any_map, List.any_eq_true, List.mem_range, Function.comp_def, e, beq_iff_eq]
  constructor
  · rintro ⟨c, hc, h⟩
    have hl := (dig_inj 0 (by decide) c (by omega)).2
    by_cases hi : ∃ i, x = .int i
    · obtain ⟨i, rfl⟩ := hi
      have h' : Str.ofString (toString (c : Int)) = Str.ofString (toString i) := by
        rw [h]
        show (PyData.int i).shown = _
        rw [PyData.shown_int]
      have hi1 := int_one (i := i) (by rw [← h']; exact hl)
      obtain ⟨j, rfl⟩ : ∃ j : Nat, i = (j : Int) := ⟨i.toNat, by omega⟩
      have := (dig_inj j (by omega) c (by omega)).1 h'.symm
      show decide (0 ≤ (j : Int) ∧ (j : Int) < p) = true
      exact decide_eq_true (by omega)
    · exact absurd (by rw [← h]; exact hl) (text_long hd fun i e => hi ⟨i, e⟩)
  · intro h
    cases x with
    | int i =>
      have hi : 0 ≤ i ∧ i < p := by simpa [dg] using h
      refine ⟨i.toNat, by omega, ?_⟩
      show _ = (PyData.int i).shown
      rw [PyData.shown_int, Int.toNat_of_nonneg hi.1]
    | _ => cases h
/-! ### the program's questions -/
def tyM (x : D) (n : String) (M : HM) (Q : DK) : Prop := fIsi [x, .ty n] M Q
/-- what isinstance says of a thing -/
def isT (n : String) : D → Bool
  | .int _ => n == "int"
  | .bl _ => n == "bool" || n == "int"
  | .tup _ => n == "tuple"
  | _ => false
theorem isi_int {x : D} {M : HM} {Q : DK} (hd : isD x = true) (q : Q (.bl (isT "int" x)) M) : fIsi [x, .ty "int"] M Q := by
  cases x <;> first | (cases hd; done) | exact ⟨_, rfl, by decide, q⟩
theorem isi_bool {x : D} {M : HM} {Q : DK} (hd : isD x = true) (q : Q (.bl (isT "bool" x)) M) : fIsi [x, .ty "bool"] M Q := by
  cases x <;> first | (cases hd; done) | exact ⟨_, rfl, by decide, q⟩
theorem isi_tup {x : D} {M : HM} {Q : DK} (hd : isD x = true) (q : Q (.bl (isT "tuple" x)) M) : fIsi [x, .ty "tuple"] M Q := by
  cases x <;> first | (cases hd; done) | exact ⟨_, rfl, by decide, q⟩
def wh : D → Bool
  | .int _ => true
  | _ => false
def sp_is_whole : DSp := fun xs M Q _ => ∃ x, xs = [x] ∧ isD x = true ∧ Q (.bl (wh x)) M
def b_is_whole : DTS := (dRet (dAndV (dCB fIsi (dCons (dVar 0) (dCons (dC (.ty "int")) dNil))) (dNotV (dCB fIsi (dCons (dVar 0) (dCons (dC (.ty "bool")) dNil))))))
theorem hd_is_whole : ∀ (xs : List D) (M : HM) (Q : DK) (E : XDK), sp_is_whole xs M Q E → xs.length = (["thing"] : List Str).length ∧ b_is_whole (ends Q E) (startD (["thing"] : List Str).length xs) M := by
  rintro xs M Q E ⟨x, rfl, hd, q⟩
  refine ⟨rfl, ?_⟩
  simp only [b_is_whole, dNext, dSeq, dDrop, dRet, dRetN, dIf, dCall, dCB, dCBK, dCons, dNil, dVar, dC, dOp, dB, dTru, dAndT, dOrT, dNotT, dAndV, dOrV, dNotV, dIfE, dChain, dTup, dLst, dSl, dPart, dNoPart, dgName, dgTup, dgCons, dgNil, dgSub, dAsg, dPar, dAug, dNeg, ends, fLt, fLe, fGt, fGe, fSub, fMod, fDiv, fPow, fAdd, fMul, iAddI, iSubI, ii, fInt, fMax2, fMin2, fLen, fTuple, fList, List.length_cons, List.length_nil, List.map_cons, List.map_nil, startD, List.replicate, List.cons_append, List.nil_append, List.append_nil, Nat.zero_add, Nat.reduceAdd, Nat.reduceSub, List.getElem?_cons_succ, List.getElem?_cons_zero, List.set_cons_zero, List.set_cons_succ, wipeD]
  refine isi_int hd ?_
  simp only [tru]
  refine ⟨fun h => isi_bool hd ?_, fun h => .here ?_⟩
  · simp only
    refine .here ?_
    cases x <;> first | (cases h; done) | exact q
  · cases x <;> first | (cases h; done) | exact q
def sp_is_colour : DSp := fun xs M Q _ => ∃ x p, xs = [.int p, x] ∧ isD x = true ∧ Q (.bl (dg p x)) M
def b_is_colour : DTS := (dRet (dAndV (dCall sp_is_whole (dCons (dVar 1) dNil)) (dChain fLe fLt (dC (.int 0)) (dVar 1) (dVar 0))))
theorem hd_is_colour : ∀ (xs : List D) (M : HM) (Q : DK) (E : XDK), sp_is_colour xs M Q E → xs.length = (["prime", "thing"] : List Str).length ∧ b_is_colour (ends Q E) (startD (["prime", "thing"] : List Str).length xs) M := by
  rintro xs M Q E ⟨x, p, rfl, hd, q⟩
  refine ⟨rfl, ?_⟩
  simp only [b_is_colour, dNext, dSeq, dDrop, dRet, dRetN, dIf, dCall, dCB, dCBK, dCons, dNil, dVar, dC, dOp, dB, dTru, dAndT, dOrT, dNotT, dAndV, dOrV, dNotV, dIfE, dChain, dTup, dLst, dSl, dPart, dNoPart, dgName, dgTup, dgCons, dgNil, dgSub, dAsg, dPar, dAug, dNeg, ends, fLt, fLe, fGt, fGe, fSub, fMod, fDiv, fPow, fAdd, fMul, iAddI, iSubI, ii, fInt, fMax2, fMin2, fLen, fTuple, fList, List.length_cons, List.length_nil, List.map_cons, List.map_nil, startD, List.replicate, List.cons_append, List.nil_append, List.append_nil, Nat.zero_add, Nat.reduceAdd, Nat.reduceSub, List.getElem?_cons_succ, List.getElem?_cons_zero, List.set_cons_zero, List.set_cons_succ, wipeD]
  refine ⟨x, rfl, hd, ?_⟩
  simp only [tru]
  refine ⟨fun h => ?_, fun h => .here ?_⟩
  · cases x with
    | int i =>
      simp only
      refine ⟨fun h1 => .here ?_, fun h1 => .here ?_⟩
      · have h1' : 0 ≤ i := by simpa using h1
        have e : dg p (.int i) = decide (i < p) := by
          show decide (0 ≤ i ∧ i < p) = _
          by_cases h2 : i < p <;> simp [h1', h2]
        rw [e] at q; exact q
      · have h1' : ¬ 0 ≤ i := by simpa using h1
        have e : dg p (.int i) = false := decide_eq_false (fun z => h1' z.1)
        rw [e] at q; exact q
    | _ => cases h
  · cases x <;> first | (cases h; done) | exact q
def wd (p : Int) : D → Bool
  | .tup ds => ds.all (dg p)
  | _ => false
def sp_is_word : DSp := fun xs M Q _ => ∃ x p, xs = [.int p, x] ∧ isD x = true ∧ (∀ ds, x = .tup ds → ds.length ≤ 1000000) ∧ Q (.bl (wd p x)) M
theorem isD_mem : ∀ {ds : List D}, isDs ds = true → ∀ x ∈ ds, isD x = true
  | d :: ds, h, x, hx => by
    have h' : isD d = true ∧ isDs ds = true := by simpa [isDs] using h
    rcases List.mem_cons.mp hx with e | e
    · subst e; exact h'.1
    · exact isD_mem h'.2 x e
def b_is_word : DTS := (dRet (dAndV (dCB fIsi (dCons (dVar 1) (dCons (dC (.ty "tuple")) dNil))) (dCB fAll (dCons (dComp (dISeq (dVar 1)) (tgN 2) dYes (dCall sp_is_colour (dCons (dVar 0) (dCons (dVar 2) dNil))) [2]) dNil))))
theorem hd_is_word : ∀ (xs : List D) (M : HM) (Q : DK) (E : XDK), sp_is_word xs M Q E → xs.length = (["prime", "thing"] : List Str).length ∧ b_is_word (ends Q E) (startD (["prime", "thing", "bead"] : List Str).length xs) M := by
  rintro xs M Q E ⟨x, p, rfl, hd, hl, q⟩
  refine ⟨rfl, ?_⟩
  simp only [b_is_word, dNext, dSeq, dDrop, dRet, dRetN, dIf, dCall, dCB, dCBK, dCons, dNil, dVar, dC, dOp, dB, dTru, dAndT, dOrT, dNotT, dAndV, dOrV, dNotV, dIfE, dChain, dTup, dLst, dSl, dPart, dNoPart, dgName, dgTup, dgCons, dgNil, dgSub, dAsg, dPar, dAug, dNeg, ends, fLt, fLe, fGt, fGe, fSub, fMod, fDiv, fPow, fAdd, fMul, iAddI, iSubI, ii, fInt, fMax2, fMin2, fLen, fTuple, fList, List.length_cons, List.length_nil, List.map_cons, List.map_nil, startD, List.replicate, List.cons_append, List.nil_append, List.append_nil, Nat.zero_add, Nat.reduceAdd, Nat.reduceSub, List.getElem?_cons_succ, List.getElem?_cons_zero, List.set_cons_zero, List.set_cons_succ, wipeD]
  refine isi_tup hd ?_
  simp only [tru]
  refine ⟨fun h => ?_, fun h => .here ?_⟩
  · cases x with
    | tup ds =>
      simp only [dComp, dISeq, dNext, dSeq, dDrop, dRet, dRetN, dIf, dCall, dCB, dCBK, dCons, dNil, dVar, dC, dOp, dB, dTru, dAndT, dOrT, dNotT, dAndV, dOrV, dNotV, dIfE, dChain, dTup, dLst, dSl, dPart, dNoPart, dgName, dgTup, dgCons, dgNil, dgSub, dAsg, dPar, dAug, dNeg, ends, fLt, fLe, fGt, fGe, fSub, fMod, fDiv, fPow, fAdd, fMul, iAddI, iSubI, ii, fInt, fMax2, fMin2, fLen, fTuple, fList, List.length_cons, List.length_nil, List.map_cons, List.map_nil, startD, List.replicate, List.cons_append, List.nil_append, List.append_nil, Nat.zero_add, Nat.reduceAdd, Nat.reduceSub, List.getElem?_cons_succ, List.getElem?_cons_zero, List.set_cons_zero, List.set_cons_succ, wipeD]
      refine ⟨ds, rfl, hl ds rfl, ?_⟩
      refine compL_map (f := fun d => .bl (dg p d)) ds [] (fun x hx => ⟨_, rfl, fun Q' q' => ?_⟩) ⟨ds.map (dg p), by simp [lstOf], .here ?_⟩
      · simp only [dNext, dSeq, dDrop, dRet, dRetN, dIf, dCall, dCB, dCBK, dCons, dNil, dVar, dC, dOp, dB, dTru, dAndT, dOrT, dNotT, dAndV, dOrV, dNotV, dIfE, dChain, dTup, dLst, dSl, dPart, dNoPart, dgName, dgTup, dgCons, dgNil, dgSub, dAsg, dPar, dAug, dNeg, ends, fLt, fLe, fGt, fGe, fSub, fMod, fDiv, fPow, fAdd, fMul, iAddI, iSubI, ii, fInt, fMax2, fMin2, fLen, fTuple, fList, List.length_cons, List.length_nil, List.map_cons, List.map_nil, startD, List.replicate, List.cons_append, List.nil_append, List.append_nil, Nat.zero_add, Nat.reduceAdd, Nat.reduceSub, List.getElem?_cons_succ, List.getElem?_cons_zero, List.set_cons_zero, List.set_cons_succ, wipeD]
        exact ⟨x, p, rfl, isD_mem hd x hx, q'⟩
      · have e : (ds.map (dg p)).all id = wd p (.tup ds) := by
          show _ = ds.all (dg p)
          rw [List.all_map]; rfl
        rw [e]; exact q
    | _ => cases h
  · cases x <;> first | (cases h; done) | exact q
theorem all_dg {p : Int} : ∀ {ds : List D}, ds.all (dg p) = true → ∃ ns : List Int, ds = dI ns ∧ ∀ x ∈ ns, 0 ≤ x ∧ x < p
  | [], _ => ⟨[], rfl, fun _ z => nomatch z⟩
  | d :: ds, h => by
    rw [List.all_cons, Bool.and_eq_true] at h
    obtain ⟨ns, rfl, h2⟩ := all_dg h.2
    cases d with
    | int i =>
      have hi : 0 ≤ i ∧ i < p := by simpa [dg] using h.1
      refine ⟨i :: ns, rfl, fun x hx => ?_⟩
      rcases List.mem_cons.mp hx with e | e
      · subst e; exact hi
      · exact h2 x e
    | _ => cases h.1
theorem dg_all {p : Int} {ns : List Int} (h : ∀ x ∈ ns, 0 ≤ x ∧ x < p) : (dI ns).all (dg p) = true := by
  rw [List.all_eq_true]
  intro d hd
  obtain ⟨i, hi, rfl⟩ := List.mem_map.mp hd
  exact decide_eq_true (h i hi)
def lastD : List D → D
  | [] => .non
  | ds => ds.getLast?.getD .non
def isZ : D → Bool
  | .int i => i == 0
  | _ => false
def fin (p : Int) : D → Bool
  | .tup ds => ds.all (dg p) && (ds.isEmpty || !isZ (lastD ds))
  | _ => false
theorem lastD_dI {ns : List Int} (h : ns ≠ []) : lastD (dI ns) = .int (ati ns (ns.length - 1)) := by
  cases ns with
  | nil => exact absurd rfl h
  | cons n r =>
    show ((dI (n :: r)).getLast?).getD .non = _
    rw [List.getLast?_eq_getElem?, dI_at (by simp)]
    simp [dI]
theorem ix_last {ns : List Int} (h : ns ≠ []) : atI (dI ns) (-1) = some (.int (ati ns (ns.length - 1))) := by
  have hl := List.length_pos_iff.mpr h
  unfold atI
  rw [ixN_neg (by decide) (by simp; omega)]
  show (dI ns)[_]? = _
  have e : ((-1 : Int) + ((dI ns).length : Nat)).toNat = ns.length - 1 := by simp; omega
  rw [e, dI_at (by omega)]
def sp_is_finite : DSp := fun xs M Q _ => ∃ x p, xs = [.int p, x] ∧ isD x = true ∧ (∀ ds, x = .tup ds → ds.length ≤ 1000000) ∧ Q (.bl (fin p x)) M
def b_is_finite : DTS := (dRet (dAndV (dCall sp_is_word (dCons (dVar 0) (dCons (dVar 1) dNil))) (dOrV (dOp fEq (dVar 1) (dTup dNil)) (dOp fNe (dOp fIx (dVar 1) (dNeg (dC (.int 1)))) (dC (.int 0))))))
theorem hd_is_finite : ∀ (xs : List D) (M : HM) (Q : DK) (E : XDK), sp_is_finite xs M Q E → xs.length = (["prime", "thing"] : List Str).length ∧ b_is_finite (ends Q E) (startD (["prime", "thing"] : List Str).length xs) M := by
  rintro xs M Q E ⟨x, p, rfl, hd, hl, q⟩
  refine ⟨rfl, ?_⟩
  simp only [b_is_finite, dNext, dSeq, dDrop, dRet, dRetN, dIf, dCall, dCB, dCBK, dCons, dNil, dVar, dC, dOp, dB, dTru, dAndT, dOrT, dNotT, dAndV, dOrV, dNotV, dIfE, dChain, dTup, dLst, dSl, dPart, dNoPart, dgName, dgTup, dgCons, dgNil, dgSub, dAsg, dPar, dAug, dNeg, ends, fLt, fLe, fGt, fGe, fSub, fMod, fDiv, fPow, fAdd, fMul, iAddI, iSubI, ii, fInt, fMax2, fMin2, fLen, fTuple, fList, List.length_cons, List.length_nil, List.map_cons, List.map_nil, startD, List.replicate, List.cons_append, List.nil_append, List.append_nil, Nat.zero_add, Nat.reduceAdd, Nat.reduceSub, List.getElem?_cons_succ, List.getElem?_cons_zero, List.set_cons_zero, List.set_cons_succ, wipeD]
  refine ⟨x, p, rfl, hd, hl, ?_⟩
  simp only [tru]
  refine ⟨fun h => ?_, fun h => .here ?_⟩
  · cases x with
    | tup ds =>
      obtain ⟨ns, rfl, hns⟩ := all_dg h
      refine ⟨by decide, eq_tI (b := []) ?_⟩
      simp only
      refine ⟨fun h1 => .here ?_, fun h1 => ?_⟩
      · have e : ns = [] := by simpa using h1
        subst e
        have z : fin p (tI []) = true := rfl
        have z' : fin p (.tup (dI ([] : List Int))) = true := z
        rw [z'] at q
        exact q
      · have hn : ns ≠ [] := by simpa using h1
        refine ⟨_, by rw [ix_tup, ix_last hn], ne_int ?_⟩
        refine .here ?_
        have z : fin p (.tup (dI ns)) = !decide (ati ns (ns.length - 1) = 0) := by
          show ((dI ns).all (dg p) && ((dI ns).isEmpty || !isZ (lastD (dI ns)))) = _
          rw [dg_all hns, lastD_dI hn]
          have e : (dI ns).isEmpty = false := by cases ns <;> simp_all
          rw [e]
          show (!(ati ns (ns.length - 1) == 0)) = _
          by_cases hz : ati ns (ns.length - 1) = 0 <;> simp [hz]
        rw [z] at q; exact q
    | _ => cases h
  · have z : fin p x = false := by
      cases x with
      | tup ds =>
        show (ds.all (dg p) && _) = false
        have h' : ds.all (dg p) = false := h
        rw [h']; rfl
      | _ => rfl
    have h0 : wd p x = false := h
    rw [z] at q
    rw [h0]; exact q
theorem fSl_tup {ds : List D} {lo hi : Option Int} {M : HM} {Q : DK} (q : Q (.tup (cutG ds lo hi)) M) : fSl (.tup ds) lo hi M Q := q
end DL

set_option Elab.async false
set_option linter.all false
set_option maxRecDepth 100000
set_option maxHeartbeats 400000
namespace DL
open PySem PySem.Spec PyProof.Rows L2
open PySem.W (Frag)
variable [TB]
/-! ### a Row's fields -/
def fl (p : Int) (T B : List Int) : List (Str × D) := [("base", .int p), ("above", tI T), ("below", tI B)]
def rowD (p : Int) (T B : List Int) : D := .obj "Row" (fl p T B)
theorem nBA : ¬ (("base" : Str) = "above") := by decide +kernel
theorem nBB : ¬ (("base" : Str) = "below") := by decide +kernel
theorem nAB : ¬ (("above" : Str) = "below") := by decide +kernel
theorem ob_row {M : HM} {p : Int} {T B : List Int} : objOf M (rowD p T B) = some (("Row" : Str), fl p T B) := rfl
theorem lk_ne {x y : Str} {d : D} {r : List (Str × D)} (h : ¬ x = y) : List.lookup y ((x, d) :: r) = List.lookup y r := by
  rw [List.lookup_cons]
  have : (y == x) = false := by rw [beq_eq_false_iff_ne]; exact fun z => h z.symm
  rw [this]
theorem lk_eq {x : Str} {d : D} {r : List (Str × D)} : List.lookup x ((x, d) :: r) = some d := by
  rw [List.lookup_cons, beq_self_eq_true]
theorem lk_base {p : Int} {T B : List Int} : (fl p T B).lookup ("base" : Str) = some (.int p) := lk_eq
theorem lk_above {p : Int} {T B : List Int} : (fl p T B).lookup ("above" : Str) = some (tI T) := by unfold fl; rw [lk_ne nBA, lk_eq]
theorem lk_below {p : Int} {T B : List Int} : (fl p T B).lookup ("below" : Str) = some (tI B) := by unfold fl; rw [lk_ne nBB, lk_ne nAB, lk_eq]
theorem lk_none {p : Int} {T B : List Int} {x : Str} (h1 : ¬ (("base" : Str) = x)) (h2 : ¬ (("above" : Str) = x)) (h3 : ¬ (("below" : Str) = x)) : (fl p T B).lookup x = none := by
  unfold fl; rw [lk_ne h1, lk_ne h2, lk_ne h3]; rfl
/-! ### what is told -/
def sp_Row_top : DSp := fun xs M Q _ => ∃ p T B, xs = [rowD p T B] ∧ Q (tI T) M
def b_Row_top : DTS := (dRet (dFld "Row" "above" (dVar 0)))
theorem hd_Row_top : ∀ (xs : List D) (M : HM) (Q : DK) (E : XDK), sp_Row_top xs M Q E → xs.length = (["self"] : List Str).length ∧ b_Row_top (ends Q E) (startD (["self"] : List Str).length xs) M := by
  rintro xs M Q E ⟨p, T, B, rfl, q⟩
  refine ⟨rfl, ?_⟩
  simp only [b_Row_top, dNext, dSeq, dDrop, dRet, dRetN, dIf, dCall, dCB, dCBK, dCons, dNil, dVar, dC, dOp, dB, dTru, dAndT, dOrT, dNotT, dAndV, dOrV, dNotV, dIfE, dChain, dTup, dLst, dSl, dPart, dNoPart, dgName, dgTup, dgCons, dgNil, dgSub, dAsg, dPar, dAug, dNeg, ends, fLt, fLe, fGt, fGe, fSub, fMod, fDiv, fPow, fAdd, fMul, iAddI, iSubI, ii, fInt, fMax2, fMin2, fLen, fTuple, fList, List.length_cons, List.length_nil, List.map_cons, List.map_nil, startD, List.replicate, List.cons_append, List.nil_append, List.append_nil, Nat.zero_add, Nat.reduceAdd, Nat.reduceSub, List.getElem?_cons_succ, List.getElem?_cons_zero, List.set_cons_zero, List.set_cons_succ, wipeD, dFld, dFldSet, dMeth, dMake, dIsO, dFmt, dJs, dStep, dRaise0, iDivI, iModI, iMulI]
  exact ⟨_, _, ob_row, lk_above, .here q⟩
def sp_Row_bottom : DSp := fun xs M Q _ => ∃ p T B, xs = [rowD p T B] ∧ Q (tI B) M
def b_Row_bottom : DTS := (dRet (dFld "Row" "below" (dVar 0)))
theorem hd_Row_bottom : ∀ (xs : List D) (M : HM) (Q : DK) (E : XDK), sp_Row_bottom xs M Q E → xs.length = (["self"] : List Str).length ∧ b_Row_bottom (ends Q E) (startD (["self"] : List Str).length xs) M := by
  rintro xs M Q E ⟨p, T, B, rfl, q⟩
  refine ⟨rfl, ?_⟩
  simp only [b_Row_bottom, dNext, dSeq, dDrop, dRet, dRetN, dIf, dCall, dCB, dCBK, dCons, dNil, dVar, dC, dOp, dB, dTru, dAndT, dOrT, dNotT, dAndV, dOrV, dNotV, dIfE, dChain, dTup, dLst, dSl, dPart, dNoPart, dgName, dgTup, dgCons, dgNil, dgSub, dAsg, dPar, dAug, dNeg, ends, fLt, fLe, fGt, fGe, fSub, fMod, fDiv, fPow, fAdd, fMul, iAddI, iSubI, ii, fInt, fMax2, fMin2, fLen, fTuple, fList, List.length_cons, List.length_nil, List.map_cons, List.map_nil, startD, List.replicate, List.cons_append, List.nil_append, List.append_nil, Nat.zero_add, Nat.reduceAdd, Nat.reduceSub, List.getElem?_cons_succ, List.getElem?_cons_zero, List.set_cons_zero, List.set_cons_succ, wipeD, dFld, dFldSet, dMeth, dMake, dIsO, dFmt, dJs, dStep, dRaise0, iDivI, iModI, iMulI]
  exact ⟨_, _, ob_row, lk_below, .here q⟩
def sp_Row_prime : DSp := fun xs M Q _ => ∃ p T B, xs = [rowD p T B] ∧ Q (.int p) M
def b_Row_prime : DTS := (dRet (dFld "Row" "base" (dVar 0)))
theorem hd_Row_prime : ∀ (xs : List D) (M : HM) (Q : DK) (E : XDK), sp_Row_prime xs M Q E → xs.length = (["self"] : List Str).length ∧ b_Row_prime (ends Q E) (startD (["self"] : List Str).length xs) M := by
  rintro xs M Q E ⟨p, T, B, rfl, q⟩
  refine ⟨rfl, ?_⟩
  simp only [b_Row_prime, dNext, dSeq, dDrop, dRet, dRetN, dIf, dCall, dCB, dCBK, dCons, dNil, dVar, dC, dOp, dB, dTru, dAndT, dOrT, dNotT, dAndV, dOrV, dNotV, dIfE, dChain, dTup, dLst, dSl, dPart, dNoPart, dgName, dgTup, dgCons, dgNil, dgSub, dAsg, dPar, dAug, dNeg, ends, fLt, fLe, fGt, fGe, fSub, fMod, fDiv, fPow, fAdd, fMul, iAddI, iSubI, ii, fInt, fMax2, fMin2, fLen, fTuple, fList, List.length_cons, List.length_nil, List.map_cons, List.map_nil, startD, List.replicate, List.cons_append, List.nil_append, List.append_nil, Nat.zero_add, Nat.reduceAdd, Nat.reduceSub, List.getElem?_cons_succ, List.getElem?_cons_zero, List.set_cons_zero, List.set_cons_succ, wipeD, dFld, dFldSet, dMeth, dMake, dIsO, dFmt, dJs, dStep, dRaise0, iDivI, iModI, iMulI]
  exact ⟨_, _, ob_row, lk_base, .here q⟩
theorem dR_top {σ : DSt} {M : HM} {Q : DK} {E : XDK} {d : DTE} {p : Int} {T B : List Int} (h : ∀ Q' : DK, Q' (rowD p T B) M → d σ M Q' E) (q : Q (tI T) M) : dMeth "Row" "top" sp_Row_top [] d dNil σ M Q E :=
  h _ ⟨_, ob_row, lk_none (by decide +kernel) (by decide +kernel) (by decide +kernel), p, T, B, rfl, q⟩
theorem dR_bottom {σ : DSt} {M : HM} {Q : DK} {E : XDK} {d : DTE} {p : Int} {T B : List Int} (h : ∀ Q' : DK, Q' (rowD p T B) M → d σ M Q' E) (q : Q (tI B) M) : dMeth "Row" "bottom" sp_Row_bottom [] d dNil σ M Q E :=
  h _ ⟨_, ob_row, lk_none (by decide +kernel) (by decide +kernel) (by decide +kernel), p, T, B, rfl, q⟩
theorem dR_prime {σ : DSt} {M : HM} {Q : DK} {E : XDK} {d : DTE} {p : Int} {T B : List Int} (h : ∀ Q' : DK, Q' (rowD p T B) M → d σ M Q' E) (q : Q (.int p) M) : dMeth "Row" "prime" sp_Row_prime [] d dNil σ M Q E :=
  h _ ⟨_, ob_row, lk_none (by decide +kernel) (by decide +kernel) (by decide +kernel), p, T, B, rfl, q⟩
/-! ### == -/
theorem eq_row3 {p p' : Int} {T B T' B' : List Int} {M : HM} {Q : DK} (q : Q (.bl (decide (p = p' ∧ T = T' ∧ B = B'))) M) : fEq (.tup [.int p, tI T, tI B]) (.tup [.int p', tI T', tI B']) M Q := by
  have ok : ∀ (p : Int) (T B : List Int), okD (.tup [.int p, tI T, tI B]) = true := fun p T B => by
    unfold okD
    have h1 : isD (.tup [.int p, tI T, tI B]) = true := by
      show (true && (isDs (dI T) && (isDs (dI B) && true))) = true
      rw [isDs_dI, isDs_dI]; rfl
    have h2 : (toPy (.tup [.int p, tI T, tI B])).depth ≤ 64 := by
      show max 0 (max (PyData.depthAll (toPys (dI T)) + 1) (max (PyData.depthAll (toPys (dI B)) + 1) 0)) + 1 ≤ 64
      rw [toPys_dI, toPys_dI, depth_ints, depth_ints]; decide
    rw [h1, decide_eq_true h2]; rfl
  refine .inl ⟨ok .., ok .., ?_⟩
  have e : eqD (rd M (.tup [.int p, tI T, tI B])) (rd M (.tup [.int p', tI T', tI B'])) = decide (p = p' ∧ T = T' ∧ B = B') := by
    show (p == p' && (PyData.eqvAll (toPys (dI T)) (toPys (dI T')) && (PyData.eqvAll (toPys (dI B)) (toPys (dI B')) && true))) = _
    rw [toPys_dI, toPys_dI, toPys_dI, toPys_dI, eqv_ints, eqv_ints]
    by_cases h1 : p = p' <;> by_cases h2 : T = T' <;> by_cases h3 : B = B' <;> simp [h1, h2, h3]
  rw [e]; exact q
def sp_Row___eq__ : DSp := fun xs M Q _ => ∃ p T B y, xs = [rowD p T B, y] ∧ ((∃ p' T' B', y = rowD p' T' B' ∧ Q (.bl (decide (p = p' ∧ T = T' ∧ B = B'))) M) ∨ ((∃ t, tyOf M y = some t) ∧ objOf M y = none ∧ Q (.bl false) M))
def b_Row___eq__ : DTS := (dSeq (dIf (dNotT (dTru (dIsO "Row" (dVar 1)))) (dRet (dC (.bl false))) dNext) (dRet (dOp fEq (dTup (dCons (dFld "Row" "base" (dVar 0)) (dCons (dFld "Row" "above" (dVar 0)) (dCons (dFld "Row" "below" (dVar 0)) dNil)))) (dTup (dCons (dFld "Row" "base" (dVar 1)) (dCons (dFld "Row" "above" (dVar 1)) (dCons (dFld "Row" "below" (dVar 1)) dNil)))))))
theorem hd_Row___eq__ : ∀ (xs : List D) (M : HM) (Q : DK) (E : XDK), sp_Row___eq__ xs M Q E → xs.length = (["self", "other"] : List Str).length ∧ b_Row___eq__ (ends Q E) (startD (["self", "other"] : List Str).length xs) M := by
  rintro xs M Q E ⟨p, T, B, y, rfl, h⟩
  refine ⟨rfl, ?_⟩
  simp only [b_Row___eq__, dNext, dSeq, dDrop, dRet, dRetN, dIf, dCall, dCB, dCBK, dCons, dNil, dVar, dC, dOp, dB, dTru, dAndT, dOrT, dNotT, dAndV, dOrV, dNotV, dIfE, dChain, dTup, dLst, dSl, dPart, dNoPart, dgName, dgTup, dgCons, dgNil, dgSub, dAsg, dPar, dAug, dNeg, ends, fLt, fLe, fGt, fGe, fSub, fMod, fDiv, fPow, fAdd, fMul, iAddI, iSubI, ii, fInt, fMax2, fMin2, fLen, fTuple, fList, List.length_cons, List.length_nil, List.map_cons, List.map_nil, startD, List.replicate, List.cons_append, List.nil_append, List.append_nil, Nat.zero_add, Nat.reduceAdd, Nat.reduceSub, List.getElem?_cons_succ, List.getElem?_cons_zero, List.set_cons_zero, List.set_cons_succ, wipeD, dFld, dFldSet, dMeth, dMake, dIsO, dFmt, dJs, dStep, dRaise0, iDivI, iModI, iMulI]
  rcases h with ⟨p', T', B', rfl, q⟩ | ⟨⟨t, ht⟩, ho, q⟩
  · refine ⟨true, rfl, fun z => (nomatch z), fun _ => ?_⟩
    refine ⟨_, _, ob_row, lk_base, _, _, ob_row, lk_above, _, _, ob_row, lk_below, by decide, _, _, ob_row, lk_base, _, _, ob_row, lk_above, _, _, ob_row, lk_below, by decide, eq_row3 (.here q)⟩
  · refine ⟨false, ?_, fun _ => .here q, fun z => (nomatch z)⟩
    unfold isaO
    rw [ho, ht]; rfl
theorem eqO_row {p p' : Int} {T B T' B' : List Int} {M : HM} {Q : DK} (q : Q (.bl (decide (p = p' ∧ T = T' ∧ B = B'))) M) : fEqO "Row" sp_Row___eq__ (rowD p T B) (rowD p' T' B') M Q :=
  ⟨rfl, .inr ⟨_, ob_row⟩, p, T, B, _, rfl, .inl ⟨p', T', B', rfl, _, rfl, q⟩⟩
theorem neO_row {p p' : Int} {T B T' B' : List Int} {M : HM} {Q : DK} (q : Q (.bl (!decide (p = p' ∧ T = T' ∧ B = B'))) M) : fNeO "Row" sp_Row___eq__ (rowD p T B) (rowD p' T' B') M Q :=
  ⟨rfl, .inr ⟨_, ob_row⟩, p, T, B, _, rfl, .inl ⟨p', T', B', rfl, _, rfl, q⟩⟩
theorem eqO_else {p : Int} {T B : List Int} {y : D} {M : HM} {Q : DK} (h : ∃ t, tyOf M y = some t) (ho : objOf M y = none) (q : Q (.bl false) M) : fEqO "Row" sp_Row___eq__ (rowD p T B) y M Q :=
  ⟨rfl, .inl h, p, T, B, _, rfl, .inr ⟨h, ho, _, rfl, q⟩⟩
/-! ### texts -/
def wtx (ns : List Int) : Str := if ns = [] then "." else Txt.join "" (ns.map fun i => (toString i : Str))
theorem tx_one {i : Int} (h0 : 0 ≤ i) (h1 : i < 10) : ((toString i : Str)).length = 1 := by
  obtain ⟨j, rfl⟩ : ∃ j : Nat, i = (j : Int) := ⟨i.toNat, by omega⟩
  exact (dig_inj 0 (by decide) j (by omega)).2
theorem join_len : ∀ ys : List Str, (∀ y ∈ ys, y.length = 1) → (Str.join "" ys).length = ys.length
  | [], _ => rfl
  | [y], h => h y List.mem_cons_self
  | y :: z :: r, h => by
    show (y ++ "" ++ Str.join "" (z :: r)).length = _
    rw [strLen_append, strLen_append, h y List.mem_cons_self, join_len (z :: r) fun x hx => h x (List.mem_cons_of_mem _ hx)]
    have : (("" : Str)).length = 0 := rfl
    rw [this]; simp; omega
theorem wtx_len {ns : List Int} (h : ∀ x ∈ ns, 0 ≤ x ∧ x < 10) : (wtx ns).length ≤ ns.length + 1 := by
  unfold wtx
  split
  · show (("." : Str)).length ≤ _
    have : (("." : Str)).length = 1 := rfl
    omega
  · rw [TL.join_eq, join_len _ (fun y hy => ?_)]
    · simp
    · obtain ⟨i, hi, rfl⟩ := List.mem_map.mp hy
      exact tx_one (h i hi).1 (h i hi).2
def sp_word_text : DSp := fun xs M Q _ => ∃ ns : List Int, xs = [tI ns] ∧ (∀ x ∈ ns, 0 ≤ x ∧ x < 10) ∧ ns.length ≤ 100000 ∧ Q (.str (wtx ns)) M
def b_word_text : DTS := (dRet (dIfE (dB (dOp fNe (dVar 0) (dTup dNil))) (dBM "str" fJoin (dC (.str "")) (dCons (dComp (dISeq (dVar 0)) (tgN 1) dYes (dCB fStr (dCons (dVar 1) dNil)) [1]) dNil)) (dC (.str "."))))
theorem hd_word_text : ∀ (xs : List D) (M : HM) (Q : DK) (E : XDK), sp_word_text xs M Q E → xs.length = (["word"] : List Str).length ∧ b_word_text (ends Q E) (startD (["word", "bead"] : List Str).length xs) M := by
  rintro xs M Q E ⟨ns, rfl, hns, hl, q⟩
  refine ⟨rfl, ?_⟩
  simp only [b_word_text, dNext, dSeq, dDrop, dRet, dRetN, dIf, dCall, dCB, dCBK, dCons, dNil, dVar, dC, dOp, dB, dTru, dAndT, dOrT, dNotT, dAndV, dOrV, dNotV, dIfE, dChain, dTup, dLst, dSl, dPart, dNoPart, dgName, dgTup, dgCons, dgNil, dgSub, dAsg, dPar, dAug, dNeg, ends, fLt, fLe, fGt, fGe, fSub, fMod, fDiv, fPow, fAdd, fMul, iAddI, iSubI, ii, fInt, fMax2, fMin2, fLen, fTuple, fList, List.length_cons, List.length_nil, List.map_cons, List.map_nil, startD, List.replicate, List.cons_append, List.nil_append, List.append_nil, Nat.zero_add, Nat.reduceAdd, Nat.reduceSub, List.getElem?_cons_succ, List.getElem?_cons_zero, List.set_cons_zero, List.set_cons_succ, wipeD, dFld, dFldSet, dMeth, dMake, dIsO, dFmt, dJs, dStep, dRaise0, iDivI, iModI, iMulI]
  refine ⟨by decide, ne_tI (b := []) ⟨fun h => ?_, fun h => ?_⟩⟩
  · have hn : ns ≠ [] := by simpa using h
    refine ⟨rfl, comp_ints (x := tI ns) (M1 := M) (g := fun i => .str (toString i)) rfl (fun Q' q' => q') (by omega) (fun i hi Q' q' => ?_) ?_⟩
    · simp only [dNext, dSeq, dDrop, dRet, dRetN, dIf, dCall, dCB, dCBK, dCons, dNil, dVar, dC, dOp, dB, dTru, dAndT, dOrT, dNotT, dAndV, dOrV, dNotV, dIfE, dChain, dTup, dLst, dSl, dPart, dNoPart, dgName, dgTup, dgCons, dgNil, dgSub, dAsg, dPar, dAug, dNeg, ends, fLt, fLe, fGt, fGe, fSub, fMod, fDiv, fPow, fAdd, fMul, iAddI, iSubI, ii, fInt, fMax2, fMin2, fLen, fTuple, fList, List.length_cons, List.length_nil, List.map_cons, List.map_nil, startD, List.replicate, List.cons_append, List.nil_append, List.append_nil, Nat.zero_add, Nat.reduceAdd, Nat.reduceSub, List.getElem?_cons_succ, List.getElem?_cons_zero, List.set_cons_zero, List.set_cons_succ, wipeD, dFld, dFldSet, dMeth, dMake, dIsO, dFmt, dJs, dStep, dRaise0, iDivI, iModI, iMulI, fStr]
      have := hns i hi
      exact ⟨big200 (by omega), q'⟩
    · refine ⟨ns.map fun i => (toString i : Str), by simp [seqOf, lstOf, Function.comp_def], ?_, .here ?_⟩
      · have e0 : (("" : Str)).length = 0 := rfl
        rw [e0, Nat.mul_zero, Nat.add_zero, List.map_map]
        have e : (ns.map (Str.length ∘ fun i => (toString i : Str))).sum = ns.length := by
          clear q hl h hn
          induction ns with
          | nil => rfl
          | cons n r ih =>
            rw [List.map_cons, List.sum_cons, ih fun x hx => hns x (List.mem_cons_of_mem _ hx)]
            have := hns n List.mem_cons_self
            show (toString n : Str).length + _ = _
            rw [tx_one this.1 this.2, List.length_cons]; omega
        rw [e]; omega
      · have e : wtx ns = Txt.join "" (ns.map fun i => (toString i : Str)) := if_neg hn
        rw [← e]; exact q
  · have hn : ns = [] := by simpa using h
    subst hn
    exact .here q
def sp__law_figures : DSp := sp_word_text
def b__law_figures : DTS := (dRet (dIfE (dB (dOp fNe (dVar 0) (dTup dNil))) (dBM "str" fJoin (dC (.str "")) (dCons (dComp (dISeq (dVar 0)) (tgN 1) dYes (dCB fStr (dCons (dVar 1) dNil)) [1]) dNil)) (dC (.str "."))))
theorem hd__law_figures : ∀ (xs : List D) (M : HM) (Q : DK) (E : XDK), sp__law_figures xs M Q E → xs.length = (["_law_word"] : List Str).length ∧ b__law_figures (ends Q E) (startD (["_law_word", "_law_bead"] : List Str).length xs) M := by
  exact hd_word_text
/-- a row's text -/
def rtx (p : Int) (T B : List Int) : Str := "row " ++ (toString p : Str) ++ " " ++ wtx T ++ " / " ++ wtx B
def sp_Row___str__ : DSp := fun xs M Q _ => ∃ p T B, xs = [rowD p T B] ∧ 0 ≤ p ∧ p < 10 ∧ (∀ x ∈ T, 0 ≤ x ∧ x < 10) ∧ (∀ x ∈ B, 0 ≤ x ∧ x < 10) ∧ T.length ≤ 100000 ∧ B.length ≤ 100000 ∧ Q (.str (rtx p T B)) M
def b_Row___str__ : DTS := (dRet (dJs [(dC (.str "row ")), (dFmt (dFld "Row" "base" (dVar 0))), (dC (.str " ")), (dFmt (dCall sp_word_text (dCons (dFld "Row" "above" (dVar 0)) dNil))), (dC (.str " / ")), (dFmt (dCall sp_word_text (dCons (dFld "Row" "below" (dVar 0)) dNil)))] Str.empty))
theorem hd_Row___str__ : ∀ (xs : List D) (M : HM) (Q : DK) (E : XDK), sp_Row___str__ xs M Q E → xs.length = (["self"] : List Str).length ∧ b_Row___str__ (ends Q E) (startD (["self"] : List Str).length xs) M := by
  rintro xs M Q E ⟨p, T, B, rfl, p0, p1, iT, iB, lT, lB, q⟩
  refine ⟨rfl, ?_⟩
  have hp := tx_one p0 p1
  have hT := wtx_len iT
  have hB := wtx_len iB
  have e1 : (("row " : Str)).length = 4 := rfl
  have e2 : ((" " : Str)).length = 1 := rfl
  have e3 : ((" / " : Str)).length = 3 := rfl
  have e0 : (Str.empty).length = 0 := rfl
  simp only [b_Row___str__, dNext, dSeq, dDrop, dRet, dRetN, dIf, dCall, dCB, dCBK, dCons, dNil, dVar, dC, dOp, dB, dTru, dAndT, dOrT, dNotT, dAndV, dOrV, dNotV, dIfE, dChain, dTup, dLst, dSl, dPart, dNoPart, dgName, dgTup, dgCons, dgNil, dgSub, dAsg, dPar, dAug, dNeg, ends, fLt, fLe, fGt, fGe, fSub, fMod, fDiv, fPow, fAdd, fMul, iAddI, iSubI, ii, fInt, fMax2, fMin2, fLen, fTuple, fList, List.length_cons, List.length_nil, List.map_cons, List.map_nil, startD, List.replicate, List.cons_append, List.nil_append, List.append_nil, Nat.zero_add, Nat.reduceAdd, Nat.reduceSub, List.getElem?_cons_succ, List.getElem?_cons_zero, List.set_cons_zero, List.set_cons_succ, wipeD, dFld, dFldSet, dMeth, dMake, dIsO, dFmt, dJs, dStep, dRaise0, iDivI, iModI, iMulI]
  refine ⟨by decide, _, _, ob_row, lk_base, log_small (big200 (by omega)), ?_, ?_, _, _, ob_row, lk_above, T, rfl, iT, lT, by omega, ?_, ?_, _, _, ob_row, lk_below, B, rfl, iB, lB, by omega, ?_, .here ?_⟩
  · rw [strLen_append, strLen_append, hp, e0, e1]; decide
  · rw [strLen_append, strLen_append, strLen_append, hp, e0, e1, e2]; decide
  · simp only [strLen_append]; rw [hp, e0, e1, e2]; omega
  · simp only [strLen_append]; rw [hp, e0, e1, e2, e3]; omega
  · simp only [strLen_append]; rw [hp, e0, e1, e2, e3]; omega
  · have e : Str.empty ++ "row " ++ (toString p : Str) ++ " " ++ wtx T ++ " / " ++ wtx B = rtx p T B := by rw [Str.empty_append]; rfl
    rw [e]; exact q
end DL

set_option Elab.async false
set_option linter.all false
set_option maxRecDepth 100000
set_option maxHeartbeats 400000
namespace DL
open PySem PySem.Spec PyProof.Rows L2
open PySem.W (Frag)
variable [TB]
/-! ### making a Row -/
instance {i : Int} : Decidable (Pr i) := by unfold Pr; infer_instance
def isP' : D → Bool
  | .int i => decide (Pr i)
  | _ => false
def sp_is_prime : DSp := fun xs M Q _ => ∃ x, xs = [x] ∧ isD x = true ∧ Q (.bl (isP' x)) M
def b_is_prime : DTS := (dRet (dAndV (dCall sp_is_whole (dCons (dVar 0) dNil)) (dOp fIn (dVar 0) (dC (.tup [.int 2, .int 3, .int 5])))))
theorem hd_is_prime : ∀ (xs : List D) (M : HM) (Q : DK) (E : XDK), sp_is_prime xs M Q E → xs.length = (["thing"] : List Str).length ∧ b_is_prime (ends Q E) (startD (["thing"] : List Str).length xs) M := by
  rintro xs M Q E ⟨x, rfl, hd, q⟩
  refine ⟨rfl, ?_⟩
  simp only [b_is_prime, dNext, dSeq, dDrop, dRet, dRetN, dIf, dCall, dCB, dCBK, dCons, dNil, dVar, dC, dOp, dB, dTru, dAndT, dOrT, dNotT, dAndV, dOrV, dNotV, dIfE, dChain, dTup, dLst, dSl, dPart, dNoPart, dgName, dgTup, dgCons, dgNil, dgSub, dAsg, dPar, dAug, dNeg, ends, fLt, fLe, fGt, fGe, fSub, fMod, fDiv, fPow, fAdd, fMul, iAddI, iSubI, ii, fInt, fMax2, fMin2, fLen, fTuple, fList, List.length_cons, List.length_nil, List.map_cons, List.map_nil, startD, List.replicate, List.cons_append, List.nil_append, List.append_nil, Nat.zero_add, Nat.reduceAdd, Nat.reduceSub, List.getElem?_cons_succ, List.getElem?_cons_zero, List.set_cons_zero, List.set_cons_succ, wipeD, dFld, dFldSet, dMeth, dMake, dIsO, dFmt, dJs, dStep, dRaise0, iDivI, iModI, iMulI]
  refine ⟨x, rfl, hd, ?_⟩
  simp only [tru]
  refine ⟨fun h => ?_, fun h => .here ?_⟩
  · cases x with
    | int i =>
      refine ⟨_, by unfold inD; rw [show dicOf M (.tup [.int 2, .int 3, .int 5]) = none from rfl, show seqOf M (.tup [.int 2, .int 3, .int 5]) = some [.int 2, .int 3, .int 5] from rfl]; exact if_pos ⟨rfl, rfl⟩, .here ?_⟩
      have e : ([D.int 2, .int 3, .int 5].any fun d => eqD d (.int i)) = isP' (.int i) := by
        show ((2 : Int) == i || ((3 : Int) == i || ((5 : Int) == i || false))) = decide (i = 2 ∨ i = 3 ∨ i = 5)
        rw [Bool.eq_iff_iff]
        simp only [Bool.or_eq_true, beq_iff_eq, Bool.or_false, decide_eq_true_eq]
        omega
      rw [e]; exact q
    | _ => cases h
  · cases x <;> first | (cases h; done) | exact q
/-- the first bead of a thing -/
def hdZ : D → Bool
  | .tup (.int i :: _) => i == 0
  | .tup [] => true
  | _ => false
/-- may a Row be made of them -/
def rowOk (x y z : D) : Bool := match x with
  | .int p => isP' x && (fin p y && (fin p z && !hdZ z))
  | _ => false
theorem fin_tI {p : Int} {y : D} (h : fin p y = true) : ∃ ns : List Int, y = tI ns ∧ In p ns ∧ Tr ns := by
  cases y with
  | tup ds =>
    have h' : (ds.all (dg p) && (ds.isEmpty || !isZ (lastD ds))) = true := h
    rw [Bool.and_eq_true] at h'
    obtain ⟨ns, rfl, hns⟩ := all_dg h'.1
    refine ⟨ns, rfl, hns, ?_⟩
    by_cases hn : ns = []
    · subst hn; exact rfl
    · have h2 := h'.2
      rw [lastD_dI hn] at h2
      have e : (dI ns).isEmpty = false := by cases ns <;> simp_all
      rw [e] at h2
      have h3 : ati ns (ns.length - 1) ≠ 0 := by
        intro z
        rw [z] at h2
        cases h2
      have := take_trim (ns := ns) (m := ns.length) (Nat.le_refl _) (fun k hk => ati_ge hk) (.inr h3)
      rw [List.take_length] at this
      exact this.symm
  | _ => cases h
theorem tI_fin {p : Int} {ns : List Int} (i : In p ns) (t : Tr ns) : fin p (tI ns) = true := by
  show ((dI ns).all (dg p) && ((dI ns).isEmpty || !isZ (lastD (dI ns)))) = true
  rw [dg_all i]
  by_cases hn : ns = []
  · subst hn; rfl
  · rw [lastD_dI hn]
    have := t.last hn
    have e : (dI ns).isEmpty = false := by cases ns <;> simp_all
    rw [e]
    show (!(ati ns (ns.length - 1) == 0)) = true
    simp [this]
theorem hdZ_tI {ns : List Int} : hdZ (tI ns) = decide (ati ns 0 = 0) := by
  cases ns with
  | nil => rfl
  | cons n r =>
    show (n == 0) = decide (ati (n :: r) 0 = 0)
    rw [show ati (n :: r) 0 = n from rfl]
    by_cases h : n = 0 <;> simp [h]
def sp_Row___init__ : DSp := fun xs M Q E => ∃ (a : Addr) (x y z : D), xs = [.ref a, x, y, z] ∧ M a = some (.ins "Row" []) ∧ isD x = true ∧ isD y = true ∧ isD z = true ∧ (∀ ds, y = .tup ds → ds.length ≤ 5000) ∧ (∀ ds, z = .tup ds → ds.length ≤ 5000) ∧
  (rowOk x y z = false → E ⟨"NoRow", []⟩ M) ∧ (∀ p A B, x = .int p → y = tI A → z = tI B → Pr p → In p A → Tr A → In p B → Tr B → ati B 0 ≠ 0 → ∀ T U, RowOf p A B T U → Q .non (mup M a (.ins "Row" (fl p T U))))
theorem init_ok {a : Addr} {p : Int} {A B : List Int} {M : HM} {Q : DK} {E : XDK} (hM : M a = some (.ins "Row" [])) (hp : Pr p) (iA : In p A) (tA : Tr A) (iB : In p B) (tB : Tr B) (hB : ati B 0 ≠ 0) (lA : A.length ≤ 5000) (lB : B.length ≤ 5000)
    (q : ∀ T U, RowOf p A B T U → Q .non (mup M a (.ins "Row" (fl p T U)))) : sp_Row___init__ [.ref a, .int p, tI A, tI B] M Q E := by
  refine ⟨a, _, _, _, rfl, hM, rfl, isDs_dI A, isDs_dI B, fun ds e => ?_, fun ds e => ?_, fun h => ?_, fun p' A' B' e1 e2 e3 _ _ _ _ _ _ => ?_⟩
  · cases e; simpa using lA
  · cases e; simpa using lB
  · exfalso
    have e : rowOk (.int p) (tI A) (tI B) = true := by
      show (isP' (.int p) && (fin p (tI A) && (fin p (tI B) && !hdZ (tI B)))) = true
      rw [tI_fin iA tA, tI_fin iB tB, hdZ_tI, decide_eq_false hB]
      show (decide (Pr p) && _) = true
      rw [decide_eq_true hp]; rfl
    rw [e] at h; cases h
  · cases e1
    have inj : ∀ {u v : List Int}, tI u = tI v → u = v := fun {u v} h => by
      have := D.tup.inj h
      exact List.map_inj_right (fun a b => D.int.inj) |>.mp this
    rw [← inj e2, ← inj e3]; exact q
/-- a Row is made of what is right -/
theorem dR_make {σ : DSt} {M M1 : HM} {Q : DK} {E : XDK} {r : DTA} {p : Int} {A B : List Int} (h : ∀ Q', Q' [.int p, tI A, tI B] M1 → r σ M Q' E) (hp : Pr p) (iA : In p A) (tA : Tr A) (iB : In p B) (tB : Tr B) (hB : ati B 0 ≠ 0) (lA : A.length ≤ 5000) (lB : B.length ≤ 5000)
    (q : ∀ T U, RowOf p A B T U → Q (rowD p T U) M1) : dMake "Row" sp_Row___init__ [] r σ M Q E := by
  refine h _ fun a ha => init_ok mup_same hp iA tA iB tB hB lA lB fun T U hr => ⟨rfl, ?_⟩
  rw [mup_mup]
  refine ⟨_, _, .ins mup_same, ?_⟩
  rw [mdel_mup ha]
  exact q T U hr
theorem div_head {p : Int} {b g t r : List Int} (hp : Pr p) (ib : In p b) (tb : Tr b) (hb : ati b 0 ≠ 0) (mg : Mo g) (ig : In p g) (tg : Tr g) (dg : Dv p g b) (d : Div p b g t r) : 0 < ati t 0 ∧ ati t 0 < p ∧ t ≠ [] := by
  have hp0 := hp.pos
  have z : r = [] := (d.dr hp0 dg (.refl hp0 g)).short hp ig tg mg.1 d.ir d.tr d.lt
  subst z
  have h := d.it.at hp0 0
  have hn : ati t 0 ≠ 0 := by
    intro z
    have e := d.cg 0
    dsimp only at e
    have e0 : mulS (ati g) (ati t) 0 = 0 := by
      show 0 + ati g 0 * ati t (0 - 0) = 0
      rw [Nat.sub_zero, z, Int.mul_zero]; rfl
    rw [e0, ati_nil] at e
    have hb2 := ib.at hp0 0
    rw [show ((0 : Int) + 0) % p = 0 from Int.zero_emod p, Int.emod_eq_of_lt hb2.1 hb2.2] at e
    exact hb e.symm
  exact ⟨by omega, h.2, ne_of0 rfl hn⟩
theorem pfl1 {d : D} : putFD "base" d [] = [(("base" : Str), d)] := rfl
theorem pfl2 {d e : D} : putFD "above" e [(("base" : Str), d)] = [(("base" : Str), d), (("above" : Str), e)] := by
  simp [putFD, nBA]
theorem pfl3 {d e f : D} : putFD "below" f [(("base" : Str), d), (("above" : Str), e)] = [(("base" : Str), d), (("above" : Str), e), (("below" : Str), f)] := by
  simp [putFD, nBB, nAB]
theorem ix0_tI {ns : List Int} (h : ns ≠ []) : atI (dI ns) 0 = some (.int (ati ns 0)) := atI_dI (by decide) (by have := List.length_pos_iff.mpr h; omega)
def b_Row___init__ : DTS := (dSeq (dIf (dOrT (dNotT (dTru (dCall sp_is_prime (dCons (dVar 1) dNil)))) (dOrT (dNotT (dTru (dCall sp_is_finite (dCons (dVar 1) (dCons (dVar 2) dNil))))) (dNotT (dTru (dCall sp_is_finite (dCons (dVar 1) (dCons (dVar 3) dNil))))))) (dRaise0 "NoRow") dNext) (dSeq (dIf (dB (dOp fEq (dCall sp_bead_at (dCons (dVar 3) (dCons (dC (.int 0)) dNil))) (dC (.int 0)))) (dRaise0 "NoRow") dNext) (dSeq (dAsg (dCall sp_common (dCons (dVar 1) (dCons (dVar 2) (dCons (dVar 3) dNil)))) (dgName 4)) (dSeq (dAsg (dCall sp_undoing (dCons (dVar 1) (dCons (dOp fIx (dOp fIx (dCall sp_parted (dCons (dVar 1) (dCons (dVar 3) (dCons (dVar 4) dNil)))) (dC (.int 0))) (dC (.int 0))) dNil))) (dgName 5)) (dSeq (dFldSet "Row" "base" (dVar 1) (dVar 0)) (dSeq (dFldSet "Row" "above" (dCall sp_scaled (dCons (dVar 1) (dCons (dOp fIx (dCall sp_parted (dCons (dVar 1) (dCons (dVar 2) (dCons (dVar 4) dNil)))) (dC (.int 0))) (dCons (dVar 5) dNil)))) (dVar 0)) (dFldSet "Row" "below" (dCall sp_scaled (dCons (dVar 1) (dCons (dOp fIx (dCall sp_parted (dCons (dVar 1) (dCons (dVar 3) (dCons (dVar 4) dNil)))) (dC (.int 0))) (dCons (dVar 5) dNil)))) (dVar 0))))))))
theorem hd_Row___init__ : ∀ (xs : List D) (M : HM) (Q : DK) (E : XDK), sp_Row___init__ xs M Q E → xs.length = (["self", "prime", "top", "bottom"] : List Str).length ∧ b_Row___init__ (ends Q E) (startD (["self", "prime", "top", "bottom", "both", "back"] : List Str).length xs) M := by
  rintro xs M Q E ⟨a, x, y, z, rfl, hM, dx, dy, dz, ly, lz, hbad, hgood⟩
  refine ⟨rfl, ?_⟩
  have bad : rowOk x y z = false → ∀ σ, RetX E ⟨"NoRow", []⟩ σ M := fun h σ => ⟨M, fun _ _ => rfl, hbad h⟩
  simp only [b_Row___init__, dNext, dSeq, dDrop, dRet, dRetN, dIf, dCall, dCB, dCBK, dCons, dNil, dVar, dC, dOp, dB, dTru, dAndT, dOrT, dNotT, dAndV, dOrV, dNotV, dIfE, dChain, dTup, dLst, dSl, dPart, dNoPart, dgName, dgTup, dgCons, dgNil, dgSub, dAsg, dPar, dAug, dNeg, ends, fLt, fLe, fGt, fGe, fSub, fMod, fDiv, fPow, fAdd, fMul, iAddI, iSubI, ii, fInt, fMax2, fMin2, fLen, fTuple, fList, List.length_cons, List.length_nil, List.map_cons, List.map_nil, startD, List.replicate, List.cons_append, List.nil_append, List.append_nil, Nat.zero_add, Nat.reduceAdd, Nat.reduceSub, List.getElem?_cons_succ, List.getElem?_cons_zero, List.set_cons_zero, List.set_cons_succ, wipeD, dFld, dFldSet, dMeth, dMake, dIsO, dFmt, dJs, dStep, dRaise0, iDivI, iModI, iMulI]
  refine ⟨x, rfl, dx, ?_⟩
  simp only [tru]
  refine ⟨fun h => ?_, fun h => ?_⟩
  · have h' : isP' x = false := by simpa using h
    first | refine bad ?_ _ | refine ⟨fun _ => bad ?_ _, fun z => nomatch z⟩
    cases x with
    | int p => show (isP' (.int p) && _) = false; rw [h']; rfl
    | _ => rfl
  have hx : isP' x = true := by simpa using h
  obtain ⟨p, rfl, hp⟩ : ∃ p, x = .int p ∧ Pr p := by
    cases x with
    | int p => exact ⟨p, rfl, of_decide_eq_true hx⟩
    | _ => cases hx
  have hp0 := hp.pos
  have hp5 := hp.le
  refine ⟨y, p, rfl, dy, fun ds e => Nat.le_trans (ly ds e) (by decide), ?_⟩
  simp only [tru]
  refine ⟨fun h => ?_, fun h => ?_⟩
  · have h' : fin p y = false := by simpa using h
    first | refine bad ?_ _ | refine ⟨fun _ => bad ?_ _, fun z => nomatch z⟩
    show (isP' (.int p) && (fin p y && _)) = false
    rw [h', Bool.false_and, Bool.and_false]
  have hy : fin p y = true := by simpa using h
  refine ⟨z, p, rfl, dz, fun ds e => Nat.le_trans (lz ds e) (by decide), ?_⟩
  simp only [tru]
  refine ⟨fun h => ?_, fun h => ?_⟩
  · have h' : fin p z = false := by simpa using h
    first | refine bad ?_ _ | refine ⟨fun _ => bad ?_ _, fun z => nomatch z⟩
    show (isP' (.int p) && (fin p y && (fin p z && _))) = false
    rw [h', Bool.false_and, Bool.and_false, Bool.and_false]
  have hz : fin p z = true := by simpa using h
  obtain ⟨A, rfl, iA, tA⟩ := fin_tI hy
  obtain ⟨B, rfl, iB, tB⟩ := fin_tI hz
  have lA : A.length ≤ 5000 := by simpa using ly _ rfl
  have lB : B.length ≤ 5000 := by simpa using lz _ rfl
  refine ⟨B, 0, rfl, by decide, eq_int ?_⟩
  simp only
  refine ⟨fun h => ?_, fun h => ?_⟩
  · refine bad ?_ _
    show (isP' (.int p) && (fin p (tI A) && (fin p (tI B) && !hdZ (tI B)))) = false
    rw [hdZ_tI, show decide (ati B 0 = 0) = true from h, Bool.not_true, Bool.and_false, Bool.and_false, Bool.and_false]
  have hB : ati B 0 ≠ 0 := of_decide_eq_false h
  have hBn : B ≠ [] := ne_of0 rfl hB
  refine ⟨p, A, B, rfl, hp, iA, tA, iB, tB, lA, lB, fun g c => ?_⟩
  have mg := c.mo fun z => hBn z.2
  have lg : g.length ≤ 5000 := by have := c.len; omega
  refine ⟨p, B, g, rfl, .inr ⟨hp, iB, c.ig, mg.1, c.tg, by omega, by omega, fun t2 r2 d2 => ?_⟩⟩
  obtain ⟨q0, q1, q2⟩ := div_head hp iB tB hB mg c.ig c.tg c.db d2
  refine ⟨_, rfl, _, ix0_tI q2, p, _, rfl, hp, q0, q1, fun i i0 i1 hi => ?_⟩
  refine ⟨a, _, rfl, hM, by decide, ?_⟩
  rw [pfl1]
  refine ⟨p, A, g, rfl, .inr ⟨hp, iA, c.ig, mg.1, c.tg, by omega, by omega, fun t1 r1 d1 => ?_⟩⟩
  refine ⟨_, rfl, p, i, t1, rfl, hp0, by have := d1.le; omega, In.bd d1.it (by omega), by omega, ?_⟩
  refine ⟨a, _, rfl, mup_same, by simp, ?_⟩
  rw [pfl2, mup_mup]
  refine ⟨p, B, g, rfl, .inr ⟨hp, iB, c.ig, mg.1, c.tg, by omega, by omega, fun t3 r3 d3 => ?_⟩⟩
  refine ⟨_, rfl, p, i, t3, rfl, hp0, by have := d3.le; omega, In.bd d3.it (by omega), by omega, ?_⟩
  refine ⟨a, _, rfl, mup_same, by simp, ?_⟩
  rw [pfl3, mup_mup]
  refine .here (hgood p A B rfl rfl rfl hp iA tA iB tB hB _ _ ?_)
  have e3 : t3 = t2 := by
    have e := fun (t r : List Int) (d : Div p B g t r) => d.cg
    have z2 : r2 = [] := (d2.dr hp0 c.db (.refl hp0 g)).short hp c.ig c.tg mg.1 d2.ir d2.tr d2.lt
    have z3 : r3 = [] := (d3.dr hp0 c.db (.refl hp0 g)).short hp c.ig c.tg mg.1 d3.ir d3.tr d3.lt
    subst z2 z3
    refine In.eq hp0 d3.it d3.tt d2.it d2.tt (fin_cancel hp c.ig c.tg mg.1 (.ati _) (.ati _) fun n => ?_)
    have h2 := d2.cg n
    have h3 := d3.cg n
    dsimp only at h2 h3
    rw [ati_nil, Int.add_zero] at h2 h3
    exact h3.trans h2.symm
  rw [e3]
  exact row_of hp iA tA iB tB hB c d1 d2 i0 i1 hi
end DL

set_option Elab.async false
set_option linter.all false
set_option maxRecDepth 100000
set_option maxHeartbeats 400000
namespace DL
open PySem PySem.Spec PyProof.Rows L2
open PySem.W (Frag)
variable [TB]
/-! ### first beads -/
theorem sum_sm (g : Nat → Int) : ∀ n, ((List.range n).map g).sum = sm g n
  | 0 => rfl
  | n + 1 => by
    rw [List.range_succ, List.map_append, List.sum_append, sum_sm g n]
    show sm g n + (g n + 0) = sm g n + g n
    rw [Int.add_zero]
theorem range_pos : ∀ n, (List.range (n + 1)).filter (fun i => decide (0 < i)) = (List.range n).map (· + 1)
  | n => by
    rw [List.range_succ_eq_map, List.filter_cons, if_neg (by decide)]
    exact List.filter_eq_self.mpr fun x hx => by
      obtain ⟨i, _, rfl⟩ := List.mem_map.mp hx
      exact decide_eq_true (Nat.succ_pos i)
theorem comp_rng2 {v : Nat} {vs : List Nat} {r : DTA} {de : DTE} {σ : DSt} {M : HM} {Q : DK} {E : XDK} {a b : Int} {g : Nat → D} (hr : ∀ Q', Q' [.int a, .int b] M → r σ M Q' E) (h0 : 0 ≤ a ∧ a ≤ 1000000) (h1 : 0 ≤ b ∧ b ≤ 1000000)
    (h : ∀ i : Nat, (i : Int) < b - a → ∀ Q', Q' (g i) M → de ((wipeD σ vs).set v (some (.int (a + i)))) M Q' (fun _ _ => False)) (q : Q (.lst ((List.range (b - a).toNat).map g)) M) : dComp (dIRng2 r) (tgN v) dYes de vs σ M Q E := by
  refine hr _ ⟨⟨by omega, by omega, by omega, by omega⟩, by rw [rgD_length]; omega, ?_⟩
  unfold rgD
  refine compL_map (f := fun d => match d with | .int i => g (i - a).toNat | d => d) _ [] (fun x hx => ?_) ?_
  · obtain ⟨i, hi, rfl⟩ := List.mem_map.mp hx
    have hi' := List.mem_range.mp hi
    refine ⟨_, rfl, fun Q' q' => h i (by omega) Q' ?_⟩
    have e : (a + (i : Int) - a).toNat = i := by omega
    dsimp only at q'
    rwa [e] at q'
  · have e : ∀ i : Nat, (a + (i : Int) - a).toNat = i := fun i => by omega
    simpa [Function.comp_def, e] using q
theorem enD_dI (ns : List Int) : enD (dI ns) = (List.range ns.length).map fun i => D.tup [.int (i : Nat), .int (ati ns i)] := by
  apply List.ext_getElem
  · simp [enD]
  · intro i h1 h2
    have hl : i < ns.length := by simpa [enD] using h1
    simp [enD, ati, hl]
/-- [.. for i, x in enumerate(ints) if ..] -/
theorem comp_en {is vs : List Nat} {r : DTA} {tc : DTT} {de : DTE} {σ : DSt} {M : HM} {Q : DK} {E : XDK} {ns : List Int} {x : D} {g : Nat → D} {p : Nat → Bool} (hx : frzOf x = some (dI ns)) (hr : ∀ Q', Q' [x] M → r σ M Q' E) (h1 : ns.length ≤ 1000000) (hi2 : is.length = 2)
    (h : ∀ i : Nat, i < ns.length → (∀ Q', Q' (p i) M → tc (setNs (wipeD σ vs) is [.int (i : Nat), .int (ati ns i)]) M Q' (fun _ _ => False)) ∧ (p i = true → ∀ Q', Q' (g i) M → de (setNs (wipeD σ vs) is [.int (i : Nat), .int (ati ns i)]) M Q' (fun _ _ => False)))
    (q : Q (.lst (((List.range ns.length).filter p).map g)) M) : dComp (dIEnum r) (tgT is) tc de vs σ M Q E := by
  refine hr _ ⟨_, hx, by rw [enD_length]; simpa using h1, ?_⟩
  rw [enD_dI]
  refine compL_if (f := fun d => match d with | .tup [.int i, _] => g i.toNat | d => d) (p := fun d => match d with | .tup [.int i, _] => p i.toNat | _ => false) _ [] (fun x hx => ?_) ?_
  · obtain ⟨i, hi, rfl⟩ := List.mem_map.mp hx
    have hi' := List.mem_range.mp hi
    obtain ⟨h2, h3⟩ := h i hi'
    refine ⟨_, by show (if _ = _ then _ else _) = _; exact if_pos (by rw [hi2]; rfl), fun Q' q' => h2 Q' (by simpa using q'), fun hp Q' q' => h3 (by simpa using hp) Q' (by simpa using q')⟩
  · have e2 : ∀ l : List Nat, ((l.map fun i : Nat => D.tup [.int (i : Nat), .int (ati ns i)]).filter (fun d => match d with | .tup [.int i, _] => p i.toNat | _ => false)).map (fun d => match d with | .tup [.int i, _] => g i.toNat | d => d) = (l.filter p).map g := by
      intro l
      induction l with
      | nil => rfl
      | cons a l ih =>
        simp only [List.map_cons, List.filter_cons, Int.toNat_natCast]
        by_cases hp : p a = true
        · simp [hp, ih]
        · simp [hp, ih]
    rw [List.nil_append, e2]
    exact q
theorem mut_ref {M : HM} {a : Addr} {ds : List D} (h : M a = some (.lst ds)) : mutOf M (.ref a) = some (a, ds) := by
  unfold mutOf; dsimp only; rw [h]
theorem Beads.nil {p : Int} {a b : List Int} : Beads p a b [] := ⟨(fun _ z => nomatch z), fun _ z => absurd z (Nat.not_lt_zero _)⟩
/-- one more bead -/
theorem Beads.snoc {p v : Int} {a b s : List Int} (hp : 0 < p) (h : Beads p a b s) (v0 : 0 ≤ v) (v1 : v < p) (hv : (ati b 0 * v + sm (fun i => ati b (i + 1) * ati s (s.length - (i + 1))) s.length) % p = ati a s.length % p) : Beads p a b (s ++ [v]) := by
  refine ⟨fun x hx => ?_, fun k hk => ?_⟩
  · rcases List.mem_append.mp hx with h1 | h1
    · exact h.1 x h1
    · rw [List.mem_singleton.mp h1]; exact ⟨v0, v1⟩
  · rw [List.length_append] at hk
    have hk' : k < s.length + 1 := hk
    by_cases e : k = s.length
    · subst e
      rw [mulS_head, ← hv]
      congr 2
      · rw [ati_app, if_neg (Nat.lt_irrefl _), Nat.sub_self]; rfl
      · exact sm_congr fun i hi => by rw [ati_app, if_pos (by omega)]
    · rw [← h.2 k (by omega)]
      congr 1
      exact sm_congr fun i hi => by rw [ati_app, if_pos (by omega)]
def sp_Row_beads : DSp := fun xs M Q _ => ∃ (p many : Int) (T B : List Int), xs = [rowD p T B, .int many] ∧ Pr p ∧ In p T ∧ In p B ∧ ati B 0 = 1 ∧ T.length ≤ 5000 ∧ B.length ≤ 5000 ∧ 0 ≤ many ∧ many ≤ 5000 ∧ ∀ s, s.length = many.toNat → Beads p T B s → Q (tI s) M
theorem sum_bd {g : Nat → Int} {C : Nat} (h : ∀ i, (g i).natAbs ≤ C) : ∀ n, (sm g n).natAbs ≤ n * C
  | 0 => by simp [sm]
  | n + 1 => by
    have h1 := sum_bd h n
    have h2 := h n
    show (sm g n + g n).natAbs ≤ _
    have e : (n + 1) * C = n * C + C := Nat.succ_mul n C
    omega
def b_Row_beads : DTS := (dSeq (dAsg (dLstM dNil) (dgName 2)) (dSeq (dFor (dIRng1 (dCons (dVar 1) dNil)) (dgName 3) (dSeq (dAsg (dComp (dIEnum (dCons (dSl (dFld "Row" "below" (dVar 0)) dNoPart (dPart (dOp fAdd (dVar 3) (dC (.int 1))))) dNil)) (tgT [5, 6]) (dB (dOp fGt (dVar 5) (dC (.int 0)))) (dOp fMul (dVar 6) (dOp fIx (dVar 2) (dOp fSub (dVar 3) (dVar 5)))) [5, 6]) (dgName 4)) (dDrop (dBM "list" fAppend (dVar 2) (dCons (dOp fMod (dCB fInt (dCons (dOp fSub (dCall sp_bead_at (dCons (dFld "Row" "above" (dVar 0)) (dCons (dVar 3) dNil))) (dCB fSum (dCons (dVar 4) dNil))) dNil)) (dFld "Row" "base" (dVar 0))) dNil))))) (dRet (dCB fTuple (dCons (dVar 2) dNil)))))
theorem hd_Row_beads : ∀ (xs : List D) (M : HM) (Q : DK) (E : XDK), sp_Row_beads xs M Q E → xs.length = (["self", "many"] : List Str).length ∧ b_Row_beads (ends Q E) (startD (["self", "many", "found", "place", "ahead", "back", "bead"] : List Str).length xs) M := by
  rintro xs M Q E ⟨p, many, T, B, rfl, hp, iT, iB, b0, lT, lB, m0, m1, q⟩
  refine ⟨rfl, ?_⟩
  have hp0 := hp.pos
  have hp5 := hp.le
  have lB0 := List.length_pos_iff.mpr (ne_of0 b0 (by decide))
  simp only [b_Row_beads, dNext, dSeq, dDrop, dRet, dRetN, dIf, dCall, dCB, dCBK, dCons, dNil, dVar, dC, dOp, dB, dTru, dAndT, dOrT, dNotT, dAndV, dOrV, dNotV, dIfE, dChain, dTup, dLst, dSl, dPart, dNoPart, dgName, dgTup, dgCons, dgNil, dgSub, dAsg, dPar, dAug, dNeg, ends, fLt, fLe, fGt, fGe, fSub, fMod, fDiv, fPow, fAdd, fMul, iAddI, iSubI, ii, fInt, fMax2, fMin2, fLen, fTuple, fList, List.length_cons, List.length_nil, List.map_cons, List.map_nil, startD, List.replicate, List.cons_append, List.nil_append, List.append_nil, Nat.zero_add, Nat.reduceAdd, Nat.reduceSub, List.getElem?_cons_succ, List.getElem?_cons_zero, List.set_cons_zero, List.set_cons_succ, wipeD, dFld, dFldSet, dMeth, dMake, dIsO, dFmt, dJs, dStep, dRaise0, iDivI, iModI, iMulI, dLstM, dFor]
  refine ⟨by decide, fun O hO => ?_⟩
  simp only [dIRng1]
  refine ⟨⟨by omega, by omega⟩, ?_⟩
  refine forL_inv (fun j σ M' => ∃ s o3 o4 o5 o6, σ = [some (rowD p T B), some (.int many), some (.ref O), o3, o4, o5, o6] ∧ M' = mup M O (.lst (dI s)) ∧ s.length = j ∧ Beads p T B s) _ 0 ?_ ?_ ⟨[], _, _, _, _, rfl, rfl, rfl, .nil⟩
  · rintro j x σ M' hx ⟨s, o3, o4, o5, o6, rfl, rfl, hl, hs⟩ D' er ex eb hnx hct
    obtain ⟨hj, rfl⟩ := rng_at hx
    rw [Nat.zero_add] at hnx hl
    subst hl
    rw [Int.zero_add]
    have hLx : lstOf (mup M O (.lst (dI s))) (.ref O) = some (dI s) := lst_ref mup_same
    simp only [dNext, dSeq, dDrop, dRet, dRetN, dIf, dCall, dCB, dCBK, dCons, dNil, dVar, dC, dOp, dB, dTru, dAndT, dOrT, dNotT, dAndV, dOrV, dNotV, dIfE, dChain, dTup, dLst, dSl, dPart, dNoPart, dgName, dgTup, dgCons, dgNil, dgSub, dAsg, dPar, dAug, dNeg, ends, fLt, fLe, fGt, fGe, fSub, fMod, fDiv, fPow, fAdd, fMul, iAddI, iSubI, ii, fInt, fMax2, fMin2, fLen, fTuple, fList, List.length_cons, List.length_nil, List.map_cons, List.map_nil, startD, List.replicate, List.cons_append, List.nil_append, List.append_nil, Nat.zero_add, Nat.reduceAdd, Nat.reduceSub, List.getElem?_cons_succ, List.getElem?_cons_zero, List.set_cons_zero, List.set_cons_succ, wipeD, dFld, dFldSet, dMeth, dMake, dIsO, dFmt, dJs, dStep, dRaise0, iDivI, iModI, iMulI]
    have hcut : cutG (dI B) none (some ((s.length : Int) + 1)) = dI (B.take (s.length + 1)) := by
      by_cases h : s.length + 1 ≤ B.length
      · rw [cutG_to (by omega) (by simp; omega), dI_take]
        congr 1
      · rw [cutG_big (by simp; omega), List.take_of_length_le (by omega)]
    have hmin : (B.take (s.length + 1)).length = min s.length (B.length - 1) + 1 := by rw [List.length_take]; omega
    refine comp_en (ns := B.take (s.length + 1)) (x := .tup (dI (B.take (s.length + 1)))) (g := fun i => .int (ati B i * ati s (s.length - i))) (p := fun i => decide (0 < i)) rfl (fun Q' q' => ?_) (by rw [List.length_take]; omega) rfl (fun i hi => ⟨fun Q' q' => ?_, fun hpi Q' q' => ?_⟩) ?_
    · simp only [dNext, dSeq, dDrop, dRet, dRetN, dIf, dCall, dCB, dCBK, dCons, dNil, dVar, dC, dOp, dB, dTru, dAndT, dOrT, dNotT, dAndV, dOrV, dNotV, dIfE, dChain, dTup, dLst, dSl, dPart, dNoPart, dgName, dgTup, dgCons, dgNil, dgSub, dAsg, dPar, dAug, dNeg, ends, fLt, fLe, fGt, fGe, fSub, fMod, fDiv, fPow, fAdd, fMul, iAddI, iSubI, ii, fInt, fMax2, fMin2, fLen, fTuple, fList, List.length_cons, List.length_nil, List.map_cons, List.map_nil, startD, List.replicate, List.cons_append, List.nil_append, List.append_nil, Nat.zero_add, Nat.reduceAdd, Nat.reduceSub, List.getElem?_cons_succ, List.getElem?_cons_zero, List.set_cons_zero, List.set_cons_succ, wipeD, dFld, dFldSet, dMeth, dMake, dIsO, dFmt, dJs, dStep, dRaise0, iDivI, iModI, iMulI]
      refine ⟨_, _, ob_row, lk_below, ?_⟩
      refine fSl_tup ?_
      rw [hcut]
      exact q'
    · simp only [setNs, dNext, dSeq, dDrop, dRet, dRetN, dIf, dCall, dCB, dCBK, dCons, dNil, dVar, dC, dOp, dB, dTru, dAndT, dOrT, dNotT, dAndV, dOrV, dNotV, dIfE, dChain, dTup, dLst, dSl, dPart, dNoPart, dgName, dgTup, dgCons, dgNil, dgSub, dAsg, dPar, dAug, dNeg, ends, fLt, fLe, fGt, fGe, fSub, fMod, fDiv, fPow, fAdd, fMul, iAddI, iSubI, ii, fInt, fMax2, fMin2, fLen, fTuple, fList, List.length_cons, List.length_nil, List.map_cons, List.map_nil, startD, List.replicate, List.cons_append, List.nil_append, List.append_nil, Nat.zero_add, Nat.reduceAdd, Nat.reduceSub, List.getElem?_cons_succ, List.getElem?_cons_zero, List.set_cons_zero, List.set_cons_succ, wipeD, dFld, dFldSet, dMeth, dMake, dIsO, dFmt, dJs, dStep, dRaise0, iDivI, iModI, iMulI]
      have e : decide ((0 : Int) < (i : Int)) = decide (0 < i) := by by_cases h : 0 < i <;> simp [h]
      rw [e]
      exact q'
    · have hi0 : 0 < i := of_decide_eq_true hpi
      rw [hmin] at hi
      simp only [setNs, dNext, dSeq, dDrop, dRet, dRetN, dIf, dCall, dCB, dCBK, dCons, dNil, dVar, dC, dOp, dB, dTru, dAndT, dOrT, dNotT, dAndV, dOrV, dNotV, dIfE, dChain, dTup, dLst, dSl, dPart, dNoPart, dgName, dgTup, dgCons, dgNil, dgSub, dAsg, dPar, dAug, dNeg, ends, fLt, fLe, fGt, fGe, fSub, fMod, fDiv, fPow, fAdd, fMul, iAddI, iSubI, ii, fInt, fMax2, fMin2, fLen, fTuple, fList, List.length_cons, List.length_nil, List.map_cons, List.map_nil, startD, List.replicate, List.cons_append, List.nil_append, List.append_nil, Nat.zero_add, Nat.reduceAdd, Nat.reduceSub, List.getElem?_cons_succ, List.getElem?_cons_zero, List.set_cons_zero, List.set_cons_succ, wipeD, dFld, dFldSet, dMeth, dMake, dIsO, dFmt, dJs, dStep, dRaise0, iDivI, iModI, iMulI]
      refine ⟨.int (ati s (s.length - i)), ?_, ⟨?_, ?_⟩, ?_⟩
      · rw [lst_ix hLx, atI_dI (by omega) (by omega)]
        have e : ((s.length : Int) - (i : Int)).toNat = s.length - i := by omega
        rw [e]
      · have := (show In p (B.take (s.length + 1)) from fun x hx => iB x (List.mem_of_mem_take hx)).at hp0 i
        exact big200 (by omega)
      · have := hs.1.at hp0 (s.length - i)
        exact big200 (by omega)
      · rw [ati_take, if_pos (by omega)]; exact q'
    · rw [hmin, range_pos, List.map_map]
      have eL : (List.range (min s.length (B.length - 1))).map ((fun i => D.int (ati B i * ati s (s.length - i))) ∘ fun x => x + 1) = dI ((List.range (min s.length (B.length - 1))).map fun i => ati B (i + 1) * ati s (s.length - (i + 1))) := by
        simp [dI, Function.comp_def]
      rw [eL]
      have hS : sm (fun i => ati B (i + 1) * ati s (s.length - (i + 1))) s.length = sm (fun i => ati B (i + 1) * ati s (s.length - (i + 1))) (min s.length (B.length - 1)) := sm_more (Nat.min_le_left _ _) fun i h1 h2 => by
        rw [ati_ge (show B.length ≤ i + 1 by omega), Int.zero_mul]
      refine ⟨by simp only [knd, mup_same], _, _, ob_row, lk_above, T, s.length, rfl, by omega, ?_⟩
      refine ⟨_, by rfl, ?_⟩
      rw [sum_sm, ← hS]
      generalize hSS : sm (fun i => ati B (i + 1) * ati s (s.length - (i + 1))) s.length = S
      refine ⟨_, _, ob_row, lk_base, hp0, ?_⟩
      rw [Int.toNat_natCast]
      refine ⟨O, dI s, mut_ref mup_same, by simp; omega, ?_⟩
      rw [mup_mup]
      have v0 := Int.emod_nonneg (ati T s.length - S) (show p ≠ 0 by omega)
      have v1 := Int.emod_lt_of_pos (ati T s.length - S) hp0
      refine hnx _ _ ⟨s ++ [(ati T s.length - S) % p], _, _, _, _, rfl, by simp [dI], by simp, hs.snoc hp0 v0 v1 ?_⟩
      rw [b0, Int.one_mul, hSS, Int.emod_add_emod, Int.sub_add_cancel]
  · rintro σ M' ⟨s, o3, o4, o5, o6, rfl, rfl, hl, hs⟩
    rw [rgD_length, Nat.zero_add] at hl
    simp only [dNext, dSeq, dDrop, dRet, dRetN, dIf, dCall, dCB, dCBK, dCons, dNil, dVar, dC, dOp, dB, dTru, dAndT, dOrT, dNotT, dAndV, dOrV, dNotV, dIfE, dChain, dTup, dLst, dSl, dPart, dNoPart, dgName, dgTup, dgCons, dgNil, dgSub, dAsg, dPar, dAug, dNeg, ends, fLt, fLe, fGt, fGe, fSub, fMod, fDiv, fPow, fAdd, fMul, iAddI, iSubI, ii, fInt, fMax2, fMin2, fLen, fTuple, fList, List.length_cons, List.length_nil, List.map_cons, List.map_nil, startD, List.replicate, List.cons_append, List.nil_append, List.append_nil, Nat.zero_add, Nat.reduceAdd, Nat.reduceSub, List.getElem?_cons_succ, List.getElem?_cons_zero, List.set_cons_zero, List.set_cons_succ, wipeD, dFld, dFldSet, dMeth, dMake, dIsO, dFmt, dJs, dStep, dRaise0, iDivI, iModI, iMulI]
    refine ⟨dI s, lst_ref mup_same, .of (M' := M) (fun c hc => ?_) (q s hl hs)⟩
    rw [mup_ne (fun z => hc (by rw [z]; exact hO))]
def sp__law_first : DSp := fun xs M Q _ => ∃ (p many : Int) (a b : List Int), xs = [.int p, tI a, tI b, .int many] ∧ Pr p ∧ In p a ∧ In p b ∧ ati b 0 ≠ 0 ∧ a.length ≤ 5000 ∧ b.length ≤ 5000 ∧ 0 ≤ many ∧ many ≤ 5000 ∧ ∀ s, s.length = many.toNat → Beads p a b s → Q (tI s) M
/-- the k of range(1, p) that undoes c -/
theorem back_ex {p c : Int} (hp : Pr p) (h0 : 0 < c) (h1 : c < p) : ∃ i : Int, c * i % p = 1 ∧ 0 ≤ i ∧ i < p ∧ ((rgD 1 (p - 1).toNat).filter fun x => match x with | .int i => decide (i * c % p = 1) | _ => false)[0]? = some (.int i) := by
  obtain ⟨i, hi, e⟩ := inv_ex hp h0 h1
  have i0 : i ≠ 0 := fun z => by subst z; simp at e
  have hm : D.int (i : Int) ∈ (rgD 1 (p - 1).toNat).filter fun x => match x with | .int i => decide (i * c % p = 1) | _ => false := by
    refine List.mem_filter.mpr ⟨List.mem_map.mpr ⟨i - 1, List.mem_range.mpr (by omega), by congr 1; omega⟩, ?_⟩
    show decide ((i : Int) * c % p = 1) = true
    rw [Int.mul_comm]; exact decide_eq_true e
  cases hl : (rgD 1 (p - 1).toNat).filter fun x => match x with | .int i => decide (i * c % p = 1) | _ => false with
  | nil => rw [hl] at hm; cases hm
  | cons j r =>
    have hj : j ∈ (rgD 1 (p - 1).toNat).filter fun x => match x with | .int i => decide (i * c % p = 1) | _ => false := by rw [hl]; exact List.mem_cons_self
    obtain ⟨h2, h3⟩ := List.mem_filter.mp hj
    obtain ⟨k, hk, rfl⟩ := List.mem_map.mp h2
    have hk' := List.mem_range.mp hk
    refine ⟨1 + (k : Int), ?_, by omega, by omega, rfl⟩
    rw [Int.mul_comm]; exact of_decide_eq_true h3
def b__law_first : DTS := (dSeq (dAsg (dOp fIx (dComp (dIRng2 (dCons (dC (.int 1)) (dCons (dVar 0) dNil))) (tgN 6) (dB (dOp fEq (dOp fMod (dOp fMul (dVar 6) (dOp fIx (dVar 2) (dC (.int 0)))) (dVar 0)) (dC (.int 1)))) (dVar 6) [6]) (dC (.int 0))) (dgName 4)) (dSeq (dAsg (dLstM dNil) (dgName 5)) (dSeq (dFor (dIRng1 (dCons (dVar 3) dNil)) (dgName 6) (dSeq (dAsg (dCB fSum (dCons (dComp (dIRng2 (dCons (dC (.int 1)) (dCons (dOp fAdd (dCB fMin2 (dCons (dVar 6) (dCons (dOp fSub (dCB fLen (dCons (dVar 2) dNil)) (dC (.int 1))) dNil))) (dC (.int 1))) dNil))) (tgN 8) dYes (dOp fMul (dOp fIx (dVar 2) (dVar 8)) (dOp fIx (dVar 5) (dOp fSub (dVar 6) (dVar 8)))) [8]) dNil)) (dgName 7)) (dDrop (dBM "list" fAppend (dVar 5) (dCons (dOp fMod (dOp fMul (dOp fSub (dIfE (dB (dOp fLt (dVar 6) (dCB fLen (dCons (dVar 1) dNil)))) (dOp fIx (dVar 1) (dVar 6)) (dC (.int 0))) (dVar 7)) (dVar 4)) (dVar 0)) dNil))))) (dRet (dCB fTuple (dCons (dVar 5) dNil))))))
theorem hd__law_first : ∀ (xs : List D) (M : HM) (Q : DK) (E : XDK), sp__law_first xs M Q E → xs.length = (["_law_p", "_law_top", "_law_bottom", "_law_many"] : List Str).length ∧ b__law_first (ends Q E) (startD (["_law_p", "_law_top", "_law_bottom", "_law_many", "_law_back", "_law_found", "_law_k", "_law_ahead", "_law_j"] : List Str).length xs) M := by
  rintro xs M Q E ⟨p, many, a, b, rfl, hp, ia, ib, hb, la, lb, m0, m1, q⟩
  refine ⟨rfl, ?_⟩
  have hp0 := hp.pos
  have hp5 := hp.le
  have hbn := ne_of0 rfl hb
  have lb0 := List.length_pos_iff.mpr hbn
  have hc := ib.at hp0 0
  simp only [b__law_first, dNext, dSeq, dDrop, dRet, dRetN, dIf, dCall, dCB, dCBK, dCons, dNil, dVar, dC, dOp, dB, dTru, dAndT, dOrT, dNotT, dAndV, dOrV, dNotV, dIfE, dChain, dTup, dLst, dSl, dPart, dNoPart, dgName, dgTup, dgCons, dgNil, dgSub, dAsg, dPar, dAug, dNeg, ends, fLt, fLe, fGt, fGe, fSub, fMod, fDiv, fPow, fAdd, fMul, iAddI, iSubI, ii, fInt, fMax2, fMin2, fLen, fTuple, fList, List.length_cons, List.length_nil, List.map_cons, List.map_nil, startD, List.replicate, List.cons_append, List.nil_append, List.append_nil, Nat.zero_add, Nat.reduceAdd, Nat.reduceSub, List.getElem?_cons_succ, List.getElem?_cons_zero, List.set_cons_zero, List.set_cons_succ, wipeD, dFld, dFldSet, dMeth, dMake, dIsO, dFmt, dJs, dStep, dRaise0, iDivI, iModI, iMulI, dLstM, dComp]
  simp only [dIRng2]
  refine ⟨⟨by decide, by decide, by omega, by omega⟩, by rw [rgD_length]; omega, ?_⟩
  refine compL_if (f := fun x => x) (p := fun x => match x with | .int i => decide (i * ati b 0 % p = 1) | _ => false) _ [] (fun x hx => ?_) ?_
  · obtain ⟨i, hi, rfl⟩ := List.mem_map.mp hx
    have hi' := List.mem_range.mp hi
    refine ⟨_, rfl, fun Q' q' => ?_, fun _ Q' q' => by simpa only [dNext, dSeq, dDrop, dRet, dRetN, dIf, dCall, dCB, dCBK, dCons, dNil, dVar, dC, dOp, dB, dTru, dAndT, dOrT, dNotT, dAndV, dOrV, dNotV, dIfE, dChain, dTup, dLst, dSl, dPart, dNoPart, dgName, dgTup, dgCons, dgNil, dgSub, dAsg, dPar, dAug, dNeg, ends, fLt, fLe, fGt, fGe, fSub, fMod, fDiv, fPow, fAdd, fMul, iAddI, iSubI, ii, fInt, fMax2, fMin2, fLen, fTuple, fList, List.length_cons, List.length_nil, List.map_cons, List.map_nil, startD, List.replicate, List.cons_append, List.nil_append, List.append_nil, Nat.zero_add, Nat.reduceAdd, Nat.reduceSub, List.getElem?_cons_succ, List.getElem?_cons_zero, List.set_cons_zero, List.set_cons_succ, wipeD, dFld, dFldSet, dMeth, dMake, dIsO, dFmt, dJs, dStep, dRaise0, iDivI, iModI, iMulI] using q'⟩
    simp only [dNext, dSeq, dDrop, dRet, dRetN, dIf, dCall, dCB, dCBK, dCons, dNil, dVar, dC, dOp, dB, dTru, dAndT, dOrT, dNotT, dAndV, dOrV, dNotV, dIfE, dChain, dTup, dLst, dSl, dPart, dNoPart, dgName, dgTup, dgCons, dgNil, dgSub, dAsg, dPar, dAug, dNeg, ends, fLt, fLe, fGt, fGe, fSub, fMod, fDiv, fPow, fAdd, fMul, iAddI, iSubI, ii, fInt, fMax2, fMin2, fLen, fTuple, fList, List.length_cons, List.length_nil, List.map_cons, List.map_nil, startD, List.replicate, List.cons_append, List.nil_append, List.append_nil, Nat.zero_add, Nat.reduceAdd, Nat.reduceSub, List.getElem?_cons_succ, List.getElem?_cons_zero, List.set_cons_zero, List.set_cons_succ, wipeD, dFld, dFldSet, dMeth, dMake, dIsO, dFmt, dJs, dStep, dRaise0, iDivI, iModI, iMulI]
    exact ⟨_, ix0_tI hbn, ⟨big200 (by omega), big200 (by omega)⟩, hp0, eq_int q'⟩
  rw [List.nil_append, List.map_id'' (fun _ => rfl)]
  obtain ⟨back, hbk, k0, k1, e0⟩ := back_ex hp (show 0 < ati b 0 by omega) hc.2
  refine ⟨.int back, by rw [ix_lst, atI_lt (by decide) (by have := (List.getElem?_eq_some_iff.mp e0).1; omega)]; exact e0, by decide, fun O hO => ?_⟩
  simp only [dFor, dIRng1, dNext, dSeq, dDrop, dRet, dRetN, dIf, dCall, dCB, dCBK, dCons, dNil, dVar, dC, dOp, dB, dTru, dAndT, dOrT, dNotT, dAndV, dOrV, dNotV, dIfE, dChain, dTup, dLst, dSl, dPart, dNoPart, dgName, dgTup, dgCons, dgNil, dgSub, dAsg, dPar, dAug, dNeg, ends, fLt, fLe, fGt, fGe, fSub, fMod, fDiv, fPow, fAdd, fMul, iAddI, iSubI, ii, fInt, fMax2, fMin2, fLen, fTuple, fList, List.length_cons, List.length_nil, List.map_cons, List.map_nil, startD, List.replicate, List.cons_append, List.nil_append, List.append_nil, Nat.zero_add, Nat.reduceAdd, Nat.reduceSub, List.getElem?_cons_succ, List.getElem?_cons_zero, List.set_cons_zero, List.set_cons_succ, wipeD, dFld, dFldSet, dMeth, dMake, dIsO, dFmt, dJs, dStep, dRaise0, iDivI, iModI, iMulI]
  refine ⟨⟨by omega, by omega⟩, ?_⟩
  refine forL_inv (fun j σ M' => ∃ s o6 o7 o8, σ = [some (.int p), some (tI a), some (tI b), some (.int many), some (.int back), some (.ref O), o6, o7, o8] ∧ M' = mup M O (.lst (dI s)) ∧ s.length = j ∧ Beads p a b s) _ 0 ?_ ?_ ⟨[], _, _, _, rfl, rfl, rfl, .nil⟩
  · rintro j x σ M' hx ⟨s, o6, o7, o8, rfl, rfl, hl, hs⟩ D' er ex eb hnx hct
    obtain ⟨hj, rfl⟩ := rng_at hx
    rw [Nat.zero_add] at hnx hl
    subst hl
    rw [Int.zero_add]
    have hLx : lstOf (mup M O (.lst (dI s))) (.ref O) = some (dI s) := lst_ref mup_same
    have hmn : (min (s.length : Int) ((b.length : Int) - 1) + 1 - 1).toNat = min s.length (b.length - 1) := by omega
    simp only [dNext, dSeq, dDrop, dRet, dRetN, dIf, dCall, dCB, dCBK, dCons, dNil, dVar, dC, dOp, dB, dTru, dAndT, dOrT, dNotT, dAndV, dOrV, dNotV, dIfE, dChain, dTup, dLst, dSl, dPart, dNoPart, dgName, dgTup, dgCons, dgNil, dgSub, dAsg, dPar, dAug, dNeg, ends, fLt, fLe, fGt, fGe, fSub, fMod, fDiv, fPow, fAdd, fMul, iAddI, iSubI, ii, fInt, fMax2, fMin2, fLen, fTuple, fList, List.length_cons, List.length_nil, List.map_cons, List.map_nil, startD, List.replicate, List.cons_append, List.nil_append, List.append_nil, Nat.zero_add, Nat.reduceAdd, Nat.reduceSub, List.getElem?_cons_succ, List.getElem?_cons_zero, List.set_cons_zero, List.set_cons_succ, wipeD, dFld, dFldSet, dMeth, dMake, dIsO, dFmt, dJs, dStep, dRaise0, iDivI, iModI, iMulI]
    refine comp_rng2 (a := 1) (b := min (s.length : Int) ((b.length : Int) - 1) + 1) (g := fun i => .int (ati b (i + 1) * ati s (s.length - (i + 1)))) (fun Q' q' => ?_) (by decide) (by omega) (fun i hi Q' q' => ?_) ?_
    · simp only [dNext, dSeq, dDrop, dRet, dRetN, dIf, dCall, dCB, dCBK, dCons, dNil, dVar, dC, dOp, dB, dTru, dAndT, dOrT, dNotT, dAndV, dOrV, dNotV, dIfE, dChain, dTup, dLst, dSl, dPart, dNoPart, dgName, dgTup, dgCons, dgNil, dgSub, dAsg, dPar, dAug, dNeg, ends, fLt, fLe, fGt, fGe, fSub, fMod, fDiv, fPow, fAdd, fMul, iAddI, iSubI, ii, fInt, fMax2, fMin2, fLen, fTuple, fList, List.length_cons, List.length_nil, List.map_cons, List.map_nil, startD, List.replicate, List.cons_append, List.nil_append, List.append_nil, Nat.zero_add, Nat.reduceAdd, Nat.reduceSub, List.getElem?_cons_succ, List.getElem?_cons_zero, List.set_cons_zero, List.set_cons_succ, wipeD, dFld, dFldSet, dMeth, dMake, dIsO, dFmt, dJs, dStep, dRaise0, iDivI, iModI, iMulI]
      refine ⟨_, rfl, ?_⟩
      have e : ((dI b).length : Int) = b.length := by simp
      rw [e]
      exact q'
    · have e1 : (1 + (i : Int)).toNat = i + 1 := by omega
      have e2 : ((s.length : Int) - (1 + (i : Int))).toNat = s.length - (i + 1) := by omega
      simp only [dNext, dSeq, dDrop, dRet, dRetN, dIf, dCall, dCB, dCBK, dCons, dNil, dVar, dC, dOp, dB, dTru, dAndT, dOrT, dNotT, dAndV, dOrV, dNotV, dIfE, dChain, dTup, dLst, dSl, dPart, dNoPart, dgName, dgTup, dgCons, dgNil, dgSub, dAsg, dPar, dAug, dNeg, ends, fLt, fLe, fGt, fGe, fSub, fMod, fDiv, fPow, fAdd, fMul, iAddI, iSubI, ii, fInt, fMax2, fMin2, fLen, fTuple, fList, List.length_cons, List.length_nil, List.map_cons, List.map_nil, startD, List.replicate, List.cons_append, List.nil_append, List.append_nil, Nat.zero_add, Nat.reduceAdd, Nat.reduceSub, List.getElem?_cons_succ, List.getElem?_cons_zero, List.set_cons_zero, List.set_cons_succ, wipeD, dFld, dFldSet, dMeth, dMake, dIsO, dFmt, dJs, dStep, dRaise0, iDivI, iModI, iMulI]
      refine ⟨.int (ati b (i + 1)), by rw [ix_tup, atI_dI (by omega) (by omega), e1], .int (ati s (s.length - (i + 1))), by rw [lst_ix hLx, atI_dI (by omega) (by omega), e2], ⟨?_, ?_⟩, q'⟩
      · have := ib.at hp0 (i + 1)
        exact big200 (by omega)
      · have := hs.1.at hp0 (s.length - (i + 1))
        exact big200 (by omega)
    · rw [hmn]
      have eL : (List.range (min s.length (b.length - 1))).map (fun i => D.int (ati b (i + 1) * ati s (s.length - (i + 1)))) = dI ((List.range (min s.length (b.length - 1))).map fun i => ati b (i + 1) * ati s (s.length - (i + 1))) := by
        simp [dI, Function.comp_def]
      rw [eL]
      have hS : sm (fun i => ati b (i + 1) * ati s (s.length - (i + 1))) s.length = sm (fun i => ati b (i + 1) * ati s (s.length - (i + 1))) (min s.length (b.length - 1)) := sm_more (Nat.min_le_left _ _) fun i h1 h2 => by
        rw [ati_ge (show b.length ≤ i + 1 by omega), Int.zero_mul]
      refine ⟨_, by rfl, ?_⟩
      rw [sum_sm, ← hS]
      have hSb : (sm (fun i => ati b (i + 1) * ati s (s.length - (i + 1))) s.length).natAbs ≤ 5000 * 25 := by
        refine Nat.le_trans (sum_bd (C := 25) (fun i => ?_) _) (Nat.mul_le_mul_right _ (by omega))
        have h1 := ib.at hp0 (i + 1)
        have h2 := hs.1.at hp0 (s.length - (i + 1))
        rw [Int.natAbs_mul]
        exact Nat.mul_le_mul (show _ ≤ 5 by omega) (show _ ≤ 5 by omega)
      generalize hSS : sm (fun i => ati b (i + 1) * ati s (s.length - (i + 1))) s.length = S at hSb
      have ha := ia.at hp0 s.length
      have step : (∀ w : Int, w = ati a s.length → ((w - S).natAbs ≤ 10 ^ 200 ∧ back.natAbs ≤ 10 ^ 200) ∧ 0 < p ∧ (fAppend (.ref O) [.int ((w - S) * back % p)] (mup M O (.lst (dI s))) fun x M1 => D'.nx [some (.int p), some (tI a), some (tI b), some (.int many), some (.int back), some (.ref O), some (.int (s.length : Int)), some (.int S), o8] M1)) := by
        rintro w rfl
        refine ⟨⟨big200 (by omega), big200 (by omega)⟩, hp0, O, dI s, mut_ref mup_same, by simp; omega, ?_⟩
        rw [mup_mup]
        have v0 := Int.emod_nonneg ((ati a s.length - S) * back) (show p ≠ 0 by omega)
        have v1 := Int.emod_lt_of_pos ((ati a s.length - S) * back) hp0
        refine hnx _ _ ⟨s ++ [(ati a s.length - S) * back % p], _, _, _, rfl, by simp [dI], by simp, hs.snoc hp0 v0 v1 ?_⟩
        rw [hSS]
        have e : (ati b 0 * ((ati a s.length - S) * back % p)) % p = (ati a s.length - S) % p := by
          rw [Int.mul_emod, Int.emod_emod, ← Int.mul_emod, Int.mul_comm (ati a s.length - S), ← Int.mul_assoc, Int.mul_emod, hbk, Int.one_mul, Int.emod_emod]
        rw [Int.add_emod, e, ← Int.add_emod, Int.sub_add_cancel]
      refine ⟨by simp only [knd, mup_same], _, rfl, fun h => ?_, fun h => ?_⟩
      · have h' : s.length < a.length := by simpa using h
        refine ⟨.int (ati a s.length), by rw [ix_tup, atI_dI (by omega) (by omega), Int.toNat_natCast], ?_⟩
        exact step _ rfl
      · have h' : ¬ s.length < a.length := by simpa using h
        exact step 0 (ati_ge (by omega)).symm
  · rintro σ M' ⟨s, o6, o7, o8, rfl, rfl, hl, hs⟩
    rw [rgD_length, Nat.zero_add] at hl
    simp only [dNext, dSeq, dDrop, dRet, dRetN, dIf, dCall, dCB, dCBK, dCons, dNil, dVar, dC, dOp, dB, dTru, dAndT, dOrT, dNotT, dAndV, dOrV, dNotV, dIfE, dChain, dTup, dLst, dSl, dPart, dNoPart, dgName, dgTup, dgCons, dgNil, dgSub, dAsg, dPar, dAug, dNeg, ends, fLt, fLe, fGt, fGe, fSub, fMod, fDiv, fPow, fAdd, fMul, iAddI, iSubI, ii, fInt, fMax2, fMin2, fLen, fTuple, fList, List.length_cons, List.length_nil, List.map_cons, List.map_nil, startD, List.replicate, List.cons_append, List.nil_append, List.append_nil, Nat.zero_add, Nat.reduceAdd, Nat.reduceSub, List.getElem?_cons_succ, List.getElem?_cons_zero, List.set_cons_zero, List.set_cons_succ, wipeD, dFld, dFldSet, dMeth, dMake, dIsO, dFmt, dJs, dStep, dRaise0, iDivI, iModI, iMulI]
    refine ⟨dI s, lst_ref mup_same, .of (M' := M) (fun c hc => ?_) (q s hl hs)⟩
    rw [mup_ne (fun z => hc (by rw [z]; exact hO))]
end DL

set_option Elab.async false
set_option linter.all false
set_option maxRecDepth 100000
set_option maxHeartbeats 400000
namespace DL
open PySem PySem.Spec PyProof.Rows L2
open PySem.W (Frag)
variable [TB]
/-! ### rows that are drawn -/
def sp__law_below : DSp := fun xs M Q _ => ∃ (t : Addr) (M0 : HM) (cells : List Int) (s l : Int) (B : Nat) (p most : Int), xs = [.ref t, .int p, .int most] ∧ M = mup M0 t (tp cells s l) ∧ TpOk cells s l B ∧ Pr p ∧ 0 < most ∧ most ≤ 900 ∧ B + 6000 ≤ 1000000 ∧
  ∀ ns s' l', (ns.length : Int) ≤ most → In p ns → Tr ns → ati ns 0 ≠ 0 → TpOk cells s' l' (B + (2 * most.toNat + 2)) → Q (tI ns) (mup M0 t (tp cells s' l'))
def b__law_below : DTS := (dRet (dCall sp__law_cut (dCons (dOp fAdd (dTup (dCons (dOp fAdd (dC (.int 1)) (dCall sp__law_draw (dCons (dVar 0) (dCons (dOp fSub (dVar 1) (dC (.int 1))) dNil)))) dNil)) (dCall sp__law_beads (dCons (dVar 0) (dCons (dVar 1) (dCons (dCall sp__law_draw (dCons (dVar 0) (dCons (dVar 2) dNil))) dNil))))) dNil)))
theorem hd__law_below : ∀ (xs : List D) (M : HM) (Q : DK) (E : XDK), sp__law_below xs M Q E → xs.length = (["_law_tape", "_law_p", "_law_most"] : List Str).length ∧ b__law_below (ends Q E) (startD (["_law_tape", "_law_p", "_law_most"] : List Str).length xs) M := by
  rintro xs M Q E ⟨t, M0, c, s, l, B, p, most, rfl, rfl, ok, hp, hm0, hm1, hB, q⟩
  refine ⟨rfl, ?_⟩
  have hp0 := hp.pos
  have hp5 := hp.le
  have hp2 : 2 ≤ p := by rcases hp with h | h | h <;> omega
  simp only [b__law_below, dNext, dSeq, dDrop, dRet, dRetN, dIf, dCall, dCB, dCBK, dCons, dNil, dVar, dC, dOp, dB, dTru, dAndT, dOrT, dNotT, dAndV, dOrV, dNotV, dIfE, dChain, dTup, dLst, dSl, dPart, dNoPart, dgName, dgTup, dgCons, dgNil, dgSub, dAsg, dPar, dAug, dNeg, ends, fLt, fLe, fGt, fGe, fSub, fMod, fDiv, fPow, fAdd, fMul, iAddI, iSubI, ii, fInt, fMax2, fMin2, fLen, fTuple, fList, List.length_cons, List.length_nil, List.map_cons, List.map_nil, startD, List.replicate, List.cons_append, List.nil_append, List.append_nil, Nat.zero_add, Nat.reduceAdd, Nat.reduceSub, List.getElem?_cons_succ, List.getElem?_cons_zero, List.set_cons_zero, List.set_cons_succ, wipeD, dFld, dFldSet, dMeth, dMake, dIsO, dFmt, dJs, dStep, dRaise0, iDivI, iModI, iMulI]
  refine ⟨t, M0, c, s, l, B, _, rfl, rfl, ok, by omega, by omega, Int.le_trans (show p - 1 ≤ 5 by omega) (by decide), fun r s1 l1 h0 h1 ok1 => ?_⟩
  refine ⟨by decide, t, M0, c, s1, l1, _, _, rfl, rfl, ok1, by omega, hm0, Int.le_trans hm1 (by decide), fun m s2 l2 h2 h3 ok2 => ?_⟩
  refine ⟨t, M0, c, s2, l2, _, p, m, rfl, rfl, ok2, hp0, by omega, h2, by omega, by omega, fun ns s3 l3 hl hr ok3 => ?_⟩
  have hin : In p ((1 + r) :: ns) := fun x hx => by
    rcases List.mem_cons.mp hx with e | e
    · subst e; exact ⟨by omega, by omega⟩
    · exact hr x e
  refine ⟨by simp; omega, ?_⟩
  refine ⟨tI ((1 + r) :: ns), (1 + r) :: ns, rfl, .inl rfl, by simp; omega, .here (q _ _ _ ?_ hin.trim (trim_trim _) ?_ (ok3.mono (by omega)))⟩
  · have := trim_len ((1 + r) :: ns)
    simp only [List.length_cons] at this
    omega
  · rw [ati_trim]
    show 1 + r ≠ 0
    omega
def sp__law_row : DSp := fun xs M Q _ => ∃ (t : Addr) (M0 : HM) (cells : List Int) (s l : Int) (B : Nat) (p most : Int), xs = [.ref t, .int p, .int most] ∧ M = mup M0 t (tp cells s l) ∧ TpOk cells s l B ∧ Pr p ∧ 0 < most ∧ most ≤ 900 ∧ B + 9000 ≤ 1000000 ∧
  ∀ a b s' l', (a.length : Int) ≤ most → In p a → Tr a → (b.length : Int) ≤ most → In p b → Tr b → ati b 0 ≠ 0 → TpOk cells s' l' (B + (4 * most.toNat + 4)) → Q (.tup [tI a, tI b]) (mup M0 t (tp cells s' l'))
def b__law_row : DTS := (dRet (dTup (dCons (dCall sp__law_finite (dCons (dVar 0) (dCons (dVar 1) (dCons (dVar 2) dNil)))) (dCons (dCall sp__law_below (dCons (dVar 0) (dCons (dVar 1) (dCons (dVar 2) dNil)))) dNil))))
theorem hd__law_row : ∀ (xs : List D) (M : HM) (Q : DK) (E : XDK), sp__law_row xs M Q E → xs.length = (["_law_tape", "_law_p", "_law_most"] : List Str).length ∧ b__law_row (ends Q E) (startD (["_law_tape", "_law_p", "_law_most"] : List Str).length xs) M := by
  rintro xs M Q E ⟨t, M0, c, s, l, B, p, most, rfl, rfl, ok, hp, hm0, hm1, hB, q⟩
  refine ⟨rfl, ?_⟩
  have hp0 := hp.pos
  have hp5 := hp.le
  simp only [b__law_row, dNext, dSeq, dDrop, dRet, dRetN, dIf, dCall, dCB, dCBK, dCons, dNil, dVar, dC, dOp, dB, dTru, dAndT, dOrT, dNotT, dAndV, dOrV, dNotV, dIfE, dChain, dTup, dLst, dSl, dPart, dNoPart, dgName, dgTup, dgCons, dgNil, dgSub, dAsg, dPar, dAug, dNeg, ends, fLt, fLe, fGt, fGe, fSub, fMod, fDiv, fPow, fAdd, fMul, iAddI, iSubI, ii, fInt, fMax2, fMin2, fLen, fTuple, fList, List.length_cons, List.length_nil, List.map_cons, List.map_nil, startD, List.replicate, List.cons_append, List.nil_append, List.append_nil, Nat.zero_add, Nat.reduceAdd, Nat.reduceSub, List.getElem?_cons_succ, List.getElem?_cons_zero, List.set_cons_zero, List.set_cons_succ, wipeD, dFld, dFldSet, dMeth, dMake, dIsO, dFmt, dJs, dStep, dRaise0, iDivI, iModI, iMulI]
  refine ⟨t, M0, c, s, l, B, p, most, rfl, rfl, ok, hp0, by omega, by omega, hm1, by omega, fun a s1 l1 la ia ta ok1 => ?_⟩
  refine ⟨t, M0, c, s1, l1, _, p, most, rfl, rfl, ok1, hp, hm0, hm1, by omega, fun b s2 l2 lb ib tb hb ok2 => ?_⟩
  exact ⟨by decide, .here (q a b _ _ la ia ta lb ib tb hb (ok2.mono (by omega)))⟩
end DL

set_option Elab.async false
set_option linter.all false
set_option maxRecDepth 100000
set_option maxHeartbeats 400000
namespace DL
open PySem PySem.Spec PyProof.Rows L2
open PySem.W (Frag)
variable [TB]
/-! ### all the beads -/
structure Ser (p : Int) (a b : List Int) (S : Nat → Int) : Prop where
  bd : ∀ n, 0 ≤ S n ∧ S n < p
  eq : Cg p (mulS (ati b) S) (ati a)
def serL (p i : Int) (a b : List Int) : Nat → List Int
  | 0 => []
  | n + 1 => serL p i a b n ++ [(ati a n - sm (fun k => ati b (k + 1) * ati (serL p i a b n) (n - (k + 1))) n) * i % p]
theorem serL_len {p i : Int} {a b : List Int} : ∀ n, (serL p i a b n).length = n
  | 0 => rfl
  | n + 1 => by unfold serL; rw [List.length_append, serL_len n]; rfl
theorem serL_beads {p i : Int} {a b : List Int} (hp : 0 < p) (hi : ati b 0 * i % p = 1) : ∀ n, Beads p a b (serL p i a b n)
  | 0 => .nil
  | n + 1 => by
    unfold serL
    have hl := serL_len (p := p) (i := i) (a := a) (b := b) n
    refine (serL_beads hp hi n).snoc hp (Int.emod_nonneg _ (by omega)) (Int.emod_lt_of_pos _ hp) ?_
    rw [hl]
    generalize sm (fun k => ati b (k + 1) * ati (serL p i a b n) (n - (k + 1))) n = S
    have e : (ati b 0 * ((ati a n - S) * i % p)) % p = (ati a n - S) % p := by
      rw [Int.mul_emod, Int.emod_emod, ← Int.mul_emod, Int.mul_comm (ati a n - S), ← Int.mul_assoc, Int.mul_emod, hi, Int.one_mul, Int.emod_emod]
    rw [Int.add_emod, e, ← Int.add_emod, Int.sub_add_cancel]
theorem serL_at {p i : Int} {a b : List Int} {k : Nat} : ∀ {n}, k < n → ati (serL p i a b n) k = ati (serL p i a b (k + 1)) k
  | n + 1, h => by
    by_cases e : k = n
    · subst e; rfl
    · have h' : k < n := by omega
      rw [← serL_at h']
      show ati (serL p i a b n ++ _) k = _
      rw [ati_app, serL_len, if_pos h']
theorem ser_ex {p : Int} {a b : List Int} (hp : Pr p) (ib : In p b) (hb : ati b 0 ≠ 0) : ∃ S, Ser p a b S := by
  have h0 := ib.at hp.pos 0
  obtain ⟨i, _, _, hi⟩ := inv_of hp h0.1 h0.2 hb
  refine ⟨fun n => ati (serL p i a b (n + 1)) n, ⟨fun n => (serL_beads hp.pos hi (n + 1)).1.at hp.pos n, fun n => ?_⟩⟩
  have h := (serL_beads (a := a) hp.pos hi (n + 1)).2 n (by rw [serL_len]; exact Nat.lt_succ_self n)
  rw [← h]
  congr 1
  exact sm_congr fun k hk => by
    show ati b k * ati (serL p i a b (n - k + 1)) (n - k) = _
    rw [serL_at (n := n + 1) (k := n - k) (by omega)]
theorem Ser.uniq {p : Int} {a b : List Int} {S S' : Nat → Int} (hp : Pr p) (ib : In p b) (hb : ati b 0 ≠ 0) (h : Ser p a b S) (h' : Ser p a b S') (n : Nat) : S n = S' n := by
  have h0 := ib.at hp.pos 0
  obtain ⟨i, _, _, hi⟩ := inv_of hp h0.1 h0.2 hb
  have e := Cg.ucancel (b := ati b) hi (h.eq.trans h'.eq.symm) n
  rwa [Int.emod_eq_of_lt (h.bd n).1 (h.bd n).2, Int.emod_eq_of_lt (h'.bd n).1 (h'.bd n).2] at e
theorem Ser.beads {p : Int} {a b s : List Int} {S : Nat → Int} (hp : Pr p) (ib : In p b) (hb : ati b 0 ≠ 0) (h : Ser p a b S) (hs : Beads p a b s) {n : Nat} (hn : n < s.length) : ati s n = S n := by
  have h0 := ib.at hp.pos 0
  obtain ⟨i, _, _, hi⟩ := inv_of hp h0.1 h0.2 hb
  have e : CgN p s.length (ati s) S := CgN.cancel (b := ati b) hi fun n hn => (hs.2 n hn).trans (h.eq n).symm
  have e := e n hn
  have h1 := hs.1.at hp.pos n
  rwa [Int.emod_eq_of_lt h1.1 h1.2, Int.emod_eq_of_lt (h.bd n).1 (h.bd n).2] at e
/-- a row's beads are those of every fraction that gives it -/
theorem Ser.cross {p : Int} {a b a' b' : List Int} {S : Nat → Int} (hp : Pr p) (ib : In p b) (hb : ati b 0 ≠ 0) (h : Ser p a b S) (e : Cg p (mulS (ati a) (ati b')) (mulS (ati a') (ati b))) : Ser p a' b' S := by
  have h0 := ib.at hp.pos 0
  obtain ⟨i, _, _, hi⟩ := inv_of hp h0.1 h0.2 hb
  refine ⟨h.bd, Cg.ucancel (b := ati b) hi ?_⟩
  refine (Cg.swap _ _ _).trans (((Cg.refl _).mul h.eq).trans ((Cg.comm _ _).trans (e.trans (.comm _ _))))
/-! ### powers -/
def pw : Nat → (Nat → Int) → Nat → Int
  | 0, _ => ati [1]
  | n + 1, f => mulS f (pw n f)
theorem Cg.pw {p : Int} {f g : Nat → Int} (h : Cg p f g) : ∀ n, Cg p (pw n f) (pw n g)
  | 0 => .refl _
  | n + 1 => h.mul (Cg.pw h n)
def ch : Nat → Nat → Int
  | _, 0 => 1
  | 0, _ + 1 => 0
  | n + 1, k + 1 => ch n k + ch n (k + 1)
theorem ch_big : ∀ {n k : Nat}, n < k → ch n k = 0
  | 0, k + 1, _ => rfl
  | n + 1, k + 1, h => by
    show ch n k + ch n (k + 1) = 0
    rw [ch_big (show n < k by omega), ch_big (show n < k + 1 by omega)]; rfl
theorem mulS_sm (f : Nat → Int) (c : Nat → Int) (h : Nat → Nat → Int) (m : Nat) : ∀ N, mulS f (fun m => sm (fun k => c k * h k m) N) m = sm (fun k => c k * mulS f (h k) m) N
  | 0 => by
    show mulS f (fun _ => 0) m = 0
    exact sm_zero fun i _ => Int.mul_zero _
  | N + 1 => by
    show mulS f (fun m => sm (fun k => c k * h k m) N + c N * h N m) m = sm (fun k => c k * mulS f (h k) m) N + c N * mulS f (h N) m
    rw [mulS_add, mulS_sm f c h m N, mulS_scal]
/-- a power of a sum -/
theorem pw_add (f g : Nat → Int) : ∀ n m, pw n (fun i => f i + g i) m = sm (fun k => ch n k * mulS (pw k f) (pw (n - k) g) m) (n + 1)
  | 0, m => by
    show ati [1] m = 0 + 1 * mulS (ati [1]) (ati [1]) m
    rw [mulS_one]; omega
  | n + 1, m => by
    show mulS (fun i => f i + g i) (pw n fun i => f i + g i) m = _
    have ih := pw_add f g n
    have e0 : (pw n fun i => f i + g i) = fun m => sm (fun k => ch n k * mulS (pw k f) (pw (n - k) g) m) (n + 1) := funext ih
    rw [e0, mulS_addR, mulS_sm, mulS_sm]
    have e1 : ∀ k, mulS f (mulS (pw k f) (pw (n - k) g)) m = mulS (pw (k + 1) f) (pw (n + 1 - (k + 1)) g) m := fun k => by
      rw [← mulS_assoc]
      show mulS (mulS f (pw k f)) (pw (n - k) g) m = mulS (mulS f (pw k f)) (pw (n + 1 - (k + 1)) g) m
      rw [show n + 1 - (k + 1) = n - k by omega]
    have e2 : ∀ k, k < n + 1 → mulS g (mulS (pw k f) (pw (n - k) g)) m = mulS (pw k f) (pw (n + 1 - k) g) m := fun k hk => by
      rw [show n + 1 - k = (n - k) + 1 by omega]
      show _ = mulS (pw k f) (mulS g (pw (n - k) g)) m
      rw [← mulS_assoc, ← mulS_assoc]
      exact sm_congr fun i _ => by rw [mulS_comm g]
    rw [sm_congr (g := fun k => ch n k * mulS (pw (k + 1) f) (pw (n + 1 - (k + 1)) g) m) fun k _ => by rw [e1], sm_congr (f := fun k => ch n k * mulS g (mulS (pw k f) (pw (n - k) g)) m) (g := fun k => ch n k * mulS (pw k f) (pw (n + 1 - k) g) m) fun k hk => by rw [e2 k hk]]
    rw [sm_shift (fun k => ch (n + 1) k * mulS (pw k f) (pw (n + 1 - k) g) m) (n + 1), sm_shift (fun k => ch n k * mulS (pw k f) (pw (n + 1 - k) g) m) n]
    have e3 : sm (fun k => ch (n + 1) (k + 1) * mulS (pw (k + 1) f) (pw (n + 1 - (k + 1)) g) m) (n + 1) = sm (fun k => ch n k * mulS (pw (k + 1) f) (pw (n + 1 - (k + 1)) g) m) (n + 1) + sm (fun k => ch n (k + 1) * mulS (pw (k + 1) f) (pw (n + 1 - (k + 1)) g) m) (n + 1) := by
      rw [← sm_add]
      exact sm_congr fun k _ => by
        show (ch n k + ch n (k + 1)) * _ = _
        rw [Int.add_mul]
    rw [e3]
    have e4 : sm (fun k => ch n (k + 1) * mulS (pw (k + 1) f) (pw (n + 1 - (k + 1)) g) m) (n + 1) = sm (fun k => ch n (k + 1) * mulS (pw (k + 1) f) (pw (n + 1 - (k + 1)) g) m) n := by
      show sm _ n + ch n (n + 1) * _ = _
      rw [ch_big (Nat.lt_succ_self n), Int.zero_mul, Int.add_zero]
    rw [e4]
    have e5 : ch n 0 * mulS (pw 0 f) (pw (n + 1 - 0) g) m = ch (n + 1) 0 * mulS (pw 0 f) (pw (n + 1 - 0) g) m := by
      have : ch n 0 = 1 := by cases n <;> rfl
      rw [this]; rfl
    rw [e5]
    omega
theorem ch_top : ∀ n, ch n n = 1
  | 0 => rfl
  | n + 1 => by
    show ch n n + ch n (n + 1) = 1
    rw [ch_top n, ch_big (Nat.lt_succ_self n)]; rfl
theorem ch_mid {p : Nat} (hp : p = 2 ∨ p = 3 ∨ p = 5) : ∀ k, 0 < k → k < p → ch p k % (p : Int) = 0 := by
  rcases hp with h | h | h <;> subst h <;> intro k h0 h1
  · have : k = 1 := by omega
    subst this; decide
  · have : k = 1 ∨ k = 2 := by omega
    rcases this with h | h <;> subst h <;> decide
  · have : k = 1 ∨ k = 2 ∨ k = 3 ∨ k = 4 := by omega
    rcases this with h | h | h | h <;> subst h <;> decide
/-- the power by the prime goes through a sum -/
theorem pw_prime_add {p : Nat} (hp : p = 2 ∨ p = 3 ∨ p = 5) (f g : Nat → Int) : Cg (p : Int) (pw p fun i => f i + g i) (fun m => pw p f m + pw p g m) := fun m => by
  rw [pw_add]
  obtain ⟨q, hq⟩ : ∃ q, p = q + 1 := ⟨p - 1, by omega⟩
  have e1 : sm (fun k => ch p k * mulS (pw k f) (pw (p - k) g) m) (p + 1) = pw p f m + (pw p g m + sm (fun k => ch p (k + 1) * mulS (pw (k + 1) f) (pw (p - (k + 1)) g) m) q) := by
    show sm _ p + ch p p * mulS (pw p f) (pw (p - p) g) m = _
    rw [ch_top, Nat.sub_self, Int.one_mul]
    have e2 : mulS (pw p f) (pw 0 g) m = pw p f m := by
      rw [mulS_comm]; exact mulS_one _ m
    rw [e2]
    have e3 : sm (fun k => ch p k * mulS (pw k f) (pw (p - k) g) m) p = pw p g m + sm (fun k => ch p (k + 1) * mulS (pw (k + 1) f) (pw (p - (k + 1)) g) m) q := by
      have e4 := sm_shift (fun k => ch p k * mulS (pw k f) (pw (p - k) g) m) q
      rw [← hq] at e4
      rw [e4]
      congr 1
      have : ch p 0 = 1 := by cases p <;> rfl
      rw [this, Int.one_mul, Nat.sub_zero]
      exact mulS_one _ m
    rw [e3]; omega
  rw [e1]
  have e5 : sm (fun k => ch p (k + 1) * mulS (pw (k + 1) f) (pw (p - (k + 1)) g) m) q % (p : Int) = sm (fun _ => 0) q % (p : Int) := sm_mod fun k hk => by
    rw [Int.mul_emod, ch_mid hp (k + 1) (by omega) (by omega), Int.zero_mul, Int.zero_emod]
  rw [sm_zero (fun _ _ => rfl), Int.zero_emod] at e5
  show (pw p f m + (pw p g m + _)) % (p : Int) = (pw p f m + pw p g m) % (p : Int)
  rw [← Int.add_assoc, Int.add_emod, e5, Int.add_zero, Int.emod_emod]
/-- one step further -/
def Xs (f : Nat → Int) (n : Nat) : Int := if n = 0 then 0 else f (n - 1)
def Ks (c : Int) (n : Nat) : Int := if n = 0 then c else 0
theorem ati_cons (c : Int) (r : List Int) (n : Nat) : ati (c :: r) n = Ks c n + Xs (ati r) n := by
  cases n with
  | zero => show c = c + 0; omega
  | succ n => show ati r n = 0 + ati r n; omega
theorem mulS_K (c : Int) (f : Nat → Int) (n : Nat) : mulS (Ks c) f n = c * f n := by
  rw [mulS_head]
  have e : sm (fun i => Ks c (i + 1) * f (n - (i + 1))) n = 0 := sm_zero fun i _ => by
    show (if i + 1 = 0 then c else 0) * _ = 0
    rw [if_neg (by omega), Int.zero_mul]
  rw [e]
  show c * f n + 0 = _
  omega
theorem mulS_X (f g : Nat → Int) (n : Nat) : mulS (Xs f) g n = Xs (mulS f g) n := by
  rw [mulS_head]
  show 0 * g n + sm (fun i => f i * g (n - (i + 1))) n = _
  cases n with
  | zero => show 0 * g 0 + 0 = 0; omega
  | succ n =>
    show 0 * _ + sm _ (n + 1) = sm _ (n + 1)
    rw [Int.zero_mul, Int.zero_add]
    exact sm_congr fun i _ => by rw [show n + 1 - (i + 1) = n - i by omega, show n + 1 - 1 - i = n - i by omega]
theorem Xs_mul (f g : Nat → Int) (n : Nat) : mulS f (Xs g) n = Xs (mulS f g) n := by
  rw [mulS_comm, mulS_X]
  cases n with
  | zero => rfl
  | succ n => exact mulS_comm _ _ _
theorem pw_X (f : Nat → Int) : ∀ n m, pw n (Xs f) m = if m < n then 0 else pw n f (m - n)
  | 0, m => by rw [if_neg (Nat.not_lt_zero m), Nat.sub_zero]; rfl
  | n + 1, m => by
    show mulS (Xs f) (pw n (Xs f)) m = _
    rw [mulS_X]
    have ih : pw n (Xs f) = fun m => if m < n then 0 else pw n f (m - n) := funext (pw_X f n)
    cases m with
    | zero => rw [if_pos (Nat.succ_pos n)]; rfl
    | succ m =>
      show mulS f (pw n (Xs f)) m = _
      rw [ih]
      by_cases h : m < n
      · rw [if_pos (by omega)]
        exact sm_zero fun i hi => by
          show f i * (if m - i < n then 0 else pw n f (m - i - n)) = 0
          rw [if_pos (by omega), Int.mul_zero]
      · rw [if_neg (by omega), show m + 1 - (n + 1) = m - n by omega]
        show mulS f (fun m => if m < n then 0 else pw n f (m - n)) m = mulS f (pw n f) (m - n)
        unfold mulS
        rw [sm_more (n := m - n + 1) (by omega) (fun i h1 h2 => by
          show f i * (if m - i < n then 0 else pw n f (m - i - n)) = 0
          rw [if_pos (by omega), Int.mul_zero])]
        exact sm_congr fun i hi => by
          show f i * (if m - i < n then 0 else pw n f (m - i - n)) = _
          rw [if_neg (by omega), show m - i - n = m - n - i by omega]
theorem pw_K (c : Int) : ∀ n m, pw n (Ks c) m = Ks (c ^ n) m
  | 0, m => by
    show ati [1] m = Ks (c ^ 0) m
    cases m with
    | zero => show (1 : Int) = c ^ 0; rw [Int.pow_zero]
    | succ m => exact ati_ge (by simp)
  | n + 1, m => by
    show mulS (Ks c) (pw n (Ks c)) m = _
    rw [mulS_K, pw_K c n m]
    unfold Ks
    split
    · rw [Int.pow_succ, Int.mul_comm]
    · exact Int.mul_zero c
theorem fermat {p : Nat} (hp : p = 2 ∨ p = 3 ∨ p = 5) : ∀ c : Nat, c < p → (c : Int) ^ p % (p : Int) = (c : Int) := by
  rcases hp with h | h | h <;> subst h <;> decide
/-- the beads at the places that the prime goes into -/
def up (p : Nat) (f : Nat → Int) (n : Nat) : Int := if n % p = 0 then f (n / p) else 0
theorem frob {p : Nat} (hp : p = 2 ∨ p = 3 ∨ p = 5) : ∀ {l : List Int}, In (p : Int) l → Cg (p : Int) (pw p (ati l)) (up p (ati l))
  | [], _ => fun m => by
    obtain ⟨q, hq⟩ : ∃ q, p = q + 1 := ⟨p - 1, by omega⟩
    have e : pw p (ati []) m = 0 := by
      rw [hq]
      exact mulS_nil _ m
    have e2 : up p (ati []) m = 0 := by unfold up; split <;> simp [ati_nil]
    rw [e, e2]
  | c :: r, h => by
    have ih := frob hp (l := r) fun x hx => h x (List.mem_cons_of_mem _ hx)
    have hc := h c List.mem_cons_self
    have e0 : ati (c :: r) = fun i => Ks c i + Xs (ati r) i := funext (ati_cons c r)
    rw [e0]
    refine (pw_prime_add hp _ _).trans fun m => ?_
    show (pw p (Ks c) m + pw p (Xs (ati r)) m) % (p : Int) = _
    rw [pw_K, pw_X]
    have hf : c ^ p % (p : Int) = c := by
      obtain ⟨d, rfl⟩ : ∃ d : Nat, c = (d : Int) := ⟨c.toNat, by omega⟩
      exact fermat hp d (by omega)
    have hp1 : 0 < p := by omega
    by_cases hm : m < p
    · rw [if_pos hm, Int.add_zero]
      unfold up Ks
      by_cases h0 : m = 0
      · subst h0
        rw [if_pos rfl, if_pos (Nat.zero_mod p), hf, Nat.zero_div]
        show c = (c + 0) % (p : Int)
        rw [Int.add_zero, Int.emod_eq_of_lt hc.1 hc.2]
      · rw [if_neg h0, if_neg (by rw [Nat.mod_eq_of_lt hm]; exact h0)]
    · rw [if_neg hm]
      have k := ih (m - p)
      have e1 : Ks (c ^ p) m = 0 := if_neg (by omega)
      rw [e1, Int.zero_add, k]
      have hd : m / p = (m - p) / p + 1 := by rw [Nat.div_eq_sub_div hp1 (by omega)]
      have hmod : m % p = (m - p) % p := Nat.mod_eq_sub_mod (by omega)
      unfold up
      rw [hd, hmod]
      split
      · congr 1
        show _ = Ks c ((m - p) / p + 1) + Xs (ati r) ((m - p) / p + 1)
        show _ = 0 + ati r ((m - p) / p)
        omega
      · rfl
/-! ### every p-th bead -/
theorem sm_up {p : Nat} (g : Nat → Int) (hp : 0 < p) : ∀ m k, k ≤ p → sm (fun i => if i % p = 0 then g (i / p) else 0) (p * m + k) = sm g m + if 0 < k then g m else 0
  | 0, 0, _ => rfl
  | m + 1, 0, _ => by
    have := sm_up g hp m p (Nat.le_refl p)
    rw [Nat.mul_succ, Nat.add_zero, this, if_pos hp, if_neg (Nat.lt_irrefl 0), Int.add_zero]
    rfl
  | m, k + 1, h => by
    have := sm_up g hp m k (by omega)
    show sm _ (p * m + k) + (if (p * m + k) % p = 0 then g ((p * m + k) / p) else 0) = _
    rw [this, if_pos (Nat.succ_pos k)]
    by_cases h0 : k = 0
    · subst h0
      rw [if_neg (Nat.lt_irrefl 0), Nat.add_zero, Nat.mul_mod_right, if_pos rfl, Nat.mul_div_cancel_left m hp, Int.add_zero]
    · rw [if_pos (by omega), Nat.mul_add_mod, Nat.mod_eq_of_lt (by omega), if_neg h0, Int.add_zero]
  termination_by m k => (m, k)
theorem up_mul {p : Nat} (hp : 0 < p) (f S : Nat → Int) (m r : Nat) (hr : r < p) : mulS (up p f) S (p * m + r) = mulS f (fun k => S (p * k + r)) m := by
  unfold mulS
  have e1 : sm (fun i => up p f i * S (p * m + r - i)) (p * m + r + 1) = sm (fun i => if i % p = 0 then f (i / p) * S (p * (m - i / p) + r) else 0) (p * m + (r + 1)) := sm_congr fun i hi => by
    unfold up
    split
    · rename_i h0
      congr 2
      have e := Nat.div_add_mod i p
      rw [h0, Nat.add_zero] at e
      have hle : i / p ≤ m := by
        rw [← Nat.lt_succ_iff, Nat.div_lt_iff_lt_mul hp, Nat.succ_mul, Nat.mul_comm m p]
        omega
      rw [Nat.mul_sub, e]
      have : p * (i / p) ≤ p * m := Nat.mul_le_mul_left p hle
      omega
    · exact Int.zero_mul _
  rw [e1, sm_up (fun j => f j * S (p * (m - j) + r)) hp m (r + 1) hr, if_pos (Nat.succ_pos r)]
  rfl
theorem ati_step {xs : List Int} {r c m : Nat} (hc : 0 < c) : ati (stepG xs r c) m = ati xs (r + m * c) := by
  unfold stepG plN
  by_cases h : r < xs.length
  · rw [if_pos h, Nat.min_eq_left (Nat.le_of_lt h)]
    have e : ((List.range ((xs.length - r - 1) / c + 1)).filterMap fun m => xs[r + m * c]?) = (List.range ((xs.length - r - 1) / c + 1)).map fun m => ati xs (r + m * c) := by
      have : ∀ l : List Nat, (∀ k ∈ l, k < (xs.length - r - 1) / c + 1) → (l.filterMap fun m => xs[r + m * c]?) = l.map fun m => ati xs (r + m * c) := by
        intro l hl
        induction l with
        | nil => rfl
        | cons k l ih =>
          have hk := hl k List.mem_cons_self
          have h1 : k * c ≤ xs.length - r - 1 := by
            have := Nat.div_mul_le_self (xs.length - r - 1) c
            have h2 : k * c ≤ (xs.length - r - 1) / c * c := Nat.mul_le_mul_right c (by omega)
            omega
          have hlt : r + k * c < xs.length := by omega
          rw [List.filterMap_cons, List.map_cons, ih fun j hj => hl j (List.mem_cons_of_mem _ hj)]
          simp [ati, hlt]
      exact this _ fun k hk => List.mem_range.mp hk
    rw [e, ati_range]
    split
    · rfl
    · rename_i h3
      rw [ati_ge]
      have h4 : (xs.length - r - 1) / c + 1 ≤ m := by omega
      have h5 := Nat.lt_mul_div_succ (xs.length - r - 1) hc
      have h6 : c * ((xs.length - r - 1) / c + 1) ≤ c * m := Nat.mul_le_mul_left c h4
      rw [Nat.mul_comm m c]
      omega
  · rw [if_neg h]
    show ati [] m = _
    rw [ati_nil, ati_ge (by omega)]
theorem mem_step {xs : List Int} {r c : Nat} {x : Int} (h : x ∈ stepG xs r c) : x ∈ xs := by
  unfold stepG at h
  obtain ⟨m, _, e⟩ := List.mem_filterMap.mp h
  exact List.mem_of_getElem? e
theorem len_step {xs : List Int} {r c N : Nat} (hc : 0 < c) (h : xs.length ≤ c * N + 1) : (stepG xs r c).length ≤ N + 1 := by
  refine Nat.le_trans (List.length_filterMap_le _ _) ?_
  rw [List.length_range]
  unfold plN
  split
  · have : (xs.length - r - 1) / c ≤ N := by
      rw [Nat.div_le_iff_le_mul_add_pred hc]
      omega
    omega
  · omega
/-- the beads at the places r, r + p, ..: q is the bottom to the prime less one -/
theorem Ser.step {p : Nat} (hp : p = 2 ∨ p = 3 ∨ p = 5) {t b q : List Int} {S : Nat → Int} (ib : In (p : Int) b) (h : Ser (p : Int) t b S) (hq : Cg (p : Int) (ati q) (pw (p - 1) (ati b))) {r : Nat} (hr : r < p) :
    Ser (p : Int) (stepG (prodR (p : Int) t q) r p) b (fun k => S (p * k + r)) := by
  refine ⟨fun n => h.bd _, fun m => ?_⟩
  have hp1 : 0 < p := by omega
  rw [ati_step hp1, ← up_mul hp1 (ati b) S m r hr]
  have e1 : Cg (p : Int) (mulS (up p (ati b)) S) (ati (prodR (p : Int) t q)) := by
    refine ((frob hp ib).symm.mul (.refl S)).trans ?_
    obtain ⟨k, hk⟩ : ∃ k, p = k + 1 := ⟨p - 1, by omega⟩
    have e2 : pw p (ati b) = mulS (ati b) (pw (p - 1) (ati b)) := by rw [hk]; rfl
    rw [e2]
    refine (Cg.assoc _ _ _).trans ?_
    refine (Cg.swap _ _ _).trans ?_
    refine ((Cg.refl _).mul h.eq).trans ?_
    refine (Cg.comm _ _).trans ?_
    exact ((Cg.refl _).mul hq.symm).trans (prod_cg _ t q).symm
  have := e1 (p * m + r)
  rw [this, show r + m * p = p * m + r by rw [Nat.mul_comm, Nat.add_comm]]
end DL

set_option Elab.async false
set_option linter.all false
set_option maxRecDepth 100000
set_option maxHeartbeats 400000
namespace DL
open PySem PySem.Spec PyProof.Rows L2
open PySem.W (Frag)
variable [TB]
/-! ### powers, far beads -/
def sp_powered : DSp := fun xs M Q _ => ∃ (p many : Int) (a : List Int), xs = [.int p, tI a, .int many] ∧ Pr p ∧ In p a ∧ a ≠ [] ∧ 0 ≤ many ∧ many ≤ 1000 ∧ many.toNat * (a.length - 1) + 1 ≤ 1000 ∧ a.length ≤ 1000 ∧ ∀ q, In p q → q.length ≤ many.toNat * (a.length - 1) + 1 → Cg p (ati q) (pw many.toNat (ati a)) → Q (tI q) M
theorem len_prod1 {p : Int} {a b : List Int} (hb : b ≠ []) : (prodR p a b).length ≤ a.length + (b.length - 1) := by
  have := List.length_pos_iff.mpr hb
  refine Nat.le_trans (trim_len _) ?_
  simp [zipR]; omega
def b_powered : DTS := (dSeq (dAsg (dTup (dCons (dC (.int 1)) dNil)) (dgName 3)) (dSeq (dFor (dIRng1 (dCons (dVar 2) dNil)) (dgName 4) (dAsg (dCall sp_product (dCons (dVar 0) (dCons (dVar 3) (dCons (dVar 1) dNil)))) (dgName 3))) (dRet (dVar 3))))
theorem hd_powered : ∀ (xs : List D) (M : HM) (Q : DK) (E : XDK), sp_powered xs M Q E → xs.length = (["prime", "one", "many"] : List Str).length ∧ b_powered (ends Q E) (startD (["prime", "one", "many", "found", "turn"] : List Str).length xs) M := by
  rintro xs M Q E ⟨p, many, a, rfl, hp, ia, hn, m0, m1, hl, la, q⟩
  refine ⟨rfl, ?_⟩
  have hp0 := hp.pos
  have hp5 := hp.le
  simp only [b_powered, dNext, dSeq, dDrop, dRet, dRetN, dIf, dCall, dCB, dCBK, dCons, dNil, dVar, dC, dOp, dB, dTru, dAndT, dOrT, dNotT, dAndV, dOrV, dNotV, dIfE, dChain, dTup, dLst, dSl, dPart, dNoPart, dgName, dgTup, dgCons, dgNil, dgSub, dAsg, dPar, dAug, dNeg, ends, fLt, fLe, fGt, fGe, fSub, fMod, fDiv, fPow, fAdd, fMul, iAddI, iSubI, ii, fInt, fMax2, fMin2, fLen, fTuple, fList, List.length_cons, List.length_nil, List.map_cons, List.map_nil, startD, List.replicate, List.cons_append, List.nil_append, List.append_nil, Nat.zero_add, Nat.reduceAdd, Nat.reduceSub, List.getElem?_cons_succ, List.getElem?_cons_zero, List.set_cons_zero, List.set_cons_succ, wipeD, dFld, dFldSet, dMeth, dMake, dIsO, dFmt, dJs, dStep, dRaise0, iDivI, iModI, iMulI, dFor, dIRng1]
  refine ⟨by decide, ⟨by omega, by omega⟩, ?_⟩
  have p1 : 2 ≤ p := by rcases hp with h | h | h <;> omega
  refine forL_inv (fun j σ M' => M' = M ∧ ∃ f o4, σ = [some (.int p), some (tI a), some (.int many), some (tI f), o4] ∧ In p f ∧ f.length ≤ j * (a.length - 1) + 1 ∧ Cg p (ati f) (pw j (ati a))) _ 0 ?_ ?_ ⟨rfl, [1], _, rfl, fun x hx => by simp at hx; subst hx; exact ⟨by decide, by omega⟩, by simp, .refl _⟩
  · rintro j x σ M' hx ⟨rfl, f, o4, rfl, iF, lF, eF⟩ D' er ex eb hnx hct
    obtain ⟨hj, rfl⟩ := rng_at hx
    rw [Nat.zero_add] at hnx lF eF
    have hle : j * (a.length - 1) ≤ many.toNat * (a.length - 1) := Nat.mul_le_mul_right _ (by omega)
    simp only [dNext, dSeq, dDrop, dRet, dRetN, dIf, dCall, dCB, dCBK, dCons, dNil, dVar, dC, dOp, dB, dTru, dAndT, dOrT, dNotT, dAndV, dOrV, dNotV, dIfE, dChain, dTup, dLst, dSl, dPart, dNoPart, dgName, dgTup, dgCons, dgNil, dgSub, dAsg, dPar, dAug, dNeg, ends, fLt, fLe, fGt, fGe, fSub, fMod, fDiv, fPow, fAdd, fMul, iAddI, iSubI, ii, fInt, fMax2, fMin2, fLen, fTuple, fList, List.length_cons, List.length_nil, List.map_cons, List.map_nil, startD, List.replicate, List.cons_append, List.nil_append, List.append_nil, Nat.zero_add, Nat.reduceAdd, Nat.reduceSub, List.getElem?_cons_succ, List.getElem?_cons_zero, List.set_cons_zero, List.set_cons_succ, wipeD, dFld, dFldSet, dMeth, dMake, dIsO, dFmt, dJs, dStep, dRaise0, iDivI, iModI, iMulI]
    refine ⟨p, f, a, rfl, hp0, by omega, la, In.bd iF (by omega), In.bd ia (by omega), ?_⟩
    refine hnx _ _ ⟨rfl, _, _, rfl, (In.prod hp0 f a).1, ?_, ?_⟩
    · have := len_prod1 (p := p) (a := f) hn
      rw [Nat.succ_mul]; omega
    · exact (prod_cg p f a).trans ((eF.mul (.refl _)).trans (.comm _ _))
  · rintro σ M' ⟨rfl, f, o4, rfl, iF, lF, eF⟩
    rw [rgD_length, Nat.zero_add] at lF eF
    simp only [dNext, dSeq, dDrop, dRet, dRetN, dIf, dCall, dCB, dCBK, dCons, dNil, dVar, dC, dOp, dB, dTru, dAndT, dOrT, dNotT, dAndV, dOrV, dNotV, dIfE, dChain, dTup, dLst, dSl, dPart, dNoPart, dgName, dgTup, dgCons, dgNil, dgSub, dAsg, dPar, dAug, dNeg, ends, fLt, fLe, fGt, fGe, fSub, fMod, fDiv, fPow, fAdd, fMul, iAddI, iSubI, ii, fInt, fMax2, fMin2, fLen, fTuple, fList, List.length_cons, List.length_nil, List.map_cons, List.map_nil, startD, List.replicate, List.cons_append, List.nil_append, List.append_nil, Nat.zero_add, Nat.reduceAdd, Nat.reduceSub, List.getElem?_cons_succ, List.getElem?_cons_zero, List.set_cons_zero, List.set_cons_succ, wipeD, dFld, dFldSet, dMeth, dMake, dIsO, dFmt, dJs, dStep, dRaise0, iDivI, iModI, iMulI]
    exact .here (q f iF lF eF)
def sp_Row_bead : DSp := fun xs M Q _ => ∃ (p n : Int) (T B : List Int), xs = [rowD p T B, .int n] ∧ Pr p ∧ In p T ∧ In p B ∧ ati B 0 = 1 ∧ T.length ≤ 100 ∧ B.length ≤ 100 ∧ 0 ≤ n ∧ ∀ S, Ser p T B S → Q (.int (S n.toNat)) M
def b_Row_bead : DTS := (dSeq (dAsg (dFld "Row" "base" (dVar 0)) (dgName 2)) (dSeq (dAsg (dCall sp_powered (dCons (dVar 2) (dCons (dFld "Row" "below" (dVar 0)) (dCons (dOp fSub (dVar 2) (dC (.int 1))) dNil)))) (dgName 3)) (dSeq (dAsg (dFld "Row" "above" (dVar 0)) (dgName 4)) (dSeq (dWhile (dB (dOp fGt (dVar 1) (dC (.int 0)))) (dSeq (dAsg (dCall sp_product (dCons (dVar 2) (dCons (dVar 4) (dCons (dVar 3) dNil)))) (dgName 5)) (dSeq (dAsg (dStep (dVar 5) (dPart (dOp fMod (dCB fInt (dCons (dVar 1) dNil)) (dVar 2))) (dPart (dVar 2))) (dgName 4)) (dAug 1 (dVar 2) iDivI)))) (dRet (dCall sp_bead_at (dCons (dVar 4) (dCons (dC (.int 0)) dNil))))))))
theorem hd_Row_bead : ∀ (xs : List D) (M : HM) (Q : DK) (E : XDK), sp_Row_bead xs M Q E → xs.length = (["self", "place"] : List Str).length ∧ b_Row_bead (ends Q E) (startD (["self", "place", "prime", "more", "top", "wide"] : List Str).length xs) M := by
  rintro xs M Q E ⟨p, n, T, B, rfl, hp, iT, iB, b0, lT, lB, n0, q⟩
  refine ⟨rfl, ?_⟩
  have hp0 := hp.pos
  have hp5 := hp.le
  have hb : ati B 0 ≠ 0 := by rw [b0]; decide
  have hBn := ne_of0 b0 (by decide)
  have lB0 := List.length_pos_iff.mpr hBn
  obtain ⟨P, hP⟩ : ∃ P : Nat, p = (P : Int) := ⟨p.toNat, by omega⟩
  have hPp : P = 2 ∨ P = 3 ∨ P = 5 := by rcases hp with h | h | h <;> omega
  have hP1 : (p - 1).toNat = P - 1 := by omega
  obtain ⟨S0, hS0⟩ := ser_ex (a := T) hp iB hb
  simp only [b_Row_bead, dNext, dSeq, dDrop, dRet, dRetN, dIf, dCall, dCB, dCBK, dCons, dNil, dVar, dC, dOp, dB, dTru, dAndT, dOrT, dNotT, dAndV, dOrV, dNotV, dIfE, dChain, dTup, dLst, dSl, dPart, dNoPart, dgName, dgTup, dgCons, dgNil, dgSub, dAsg, dPar, dAug, dNeg, ends, fLt, fLe, fGt, fGe, fSub, fMod, fDiv, fPow, fAdd, fMul, iAddI, iSubI, ii, fInt, fMax2, fMin2, fLen, fTuple, fList, List.length_cons, List.length_nil, List.map_cons, List.map_nil, startD, List.replicate, List.cons_append, List.nil_append, List.append_nil, Nat.zero_add, Nat.reduceAdd, Nat.reduceSub, List.getElem?_cons_succ, List.getElem?_cons_zero, List.set_cons_zero, List.set_cons_succ, wipeD, dFld, dFldSet, dMeth, dMake, dIsO, dFmt, dJs, dStep, dRaise0, iDivI, iModI, iMulI, dWhile]
  refine ⟨_, _, ob_row, lk_base, _, _, ob_row, lk_below, ?_⟩
  have hle : (p - 1).toNat * (B.length - 1) ≤ 4 * (B.length - 1) := Nat.mul_le_mul_right _ (by omega)
  refine ⟨p, p - 1, B, rfl, hp, iB, hBn, by omega, by omega, by omega, by omega, fun g ig lg eg => ?_⟩
  rw [hP1] at eg lg
  refine ⟨_, _, ob_row, lk_above, ?_⟩
  obtain ⟨N, hN⟩ : ∃ N, N = max T.length B.length := ⟨_, rfl⟩
  refine ⟨fun m σ M' => M' = M ∧ ∃ t o5, σ = [some (rowD p T B), some (.int (m : Int)), some (.int p), some (tI g), some (tI t), o5] ∧ In p t ∧ t.length ≤ N ∧ ∃ S, Ser p t B S ∧ S m = S0 n.toNat, ⟨n.toNat, rfl, T, _, by rw [Int.toNat_of_nonneg n0], iT, by omega, S0, hS0, rfl⟩, ?_⟩
  rintro m σ M' ⟨rfl, t, o5, rfl, it, lt, S, hS, eS⟩
  simp only [dNext, dSeq, dDrop, dRet, dRetN, dIf, dCall, dCB, dCBK, dCons, dNil, dVar, dC, dOp, dB, dTru, dAndT, dOrT, dNotT, dAndV, dOrV, dNotV, dIfE, dChain, dTup, dLst, dSl, dPart, dNoPart, dgName, dgTup, dgCons, dgNil, dgSub, dAsg, dPar, dAug, dNeg, ends, fLt, fLe, fGt, fGe, fSub, fMod, fDiv, fPow, fAdd, fMul, iAddI, iSubI, ii, fInt, fMax2, fMin2, fLen, fTuple, fList, List.length_cons, List.length_nil, List.map_cons, List.map_nil, startD, List.replicate, List.cons_append, List.nil_append, List.append_nil, Nat.zero_add, Nat.reduceAdd, Nat.reduceSub, List.getElem?_cons_succ, List.getElem?_cons_zero, List.set_cons_zero, List.set_cons_succ, wipeD, dFld, dFldSet, dMeth, dMake, dIsO, dFmt, dJs, dStep, dRaise0, iDivI, iModI, iMulI]
  refine ⟨fun hm => ?_, fun hm => ?_⟩
  · have hm0 : 0 < m := by have := of_decide_eq_true hm; omega
    have e4 : (P - 1) * (B.length - 1) ≤ 4 * (B.length - 1) := Nat.mul_le_mul_right _ (by omega)
    refine ⟨p, t, g, rfl, hp0, by omega, by omega, In.bd it (by omega), In.bd ig (by omega), ?_⟩
    have hr0 := Int.emod_nonneg (m : Int) (show p ≠ 0 by omega)
    have hr1 := Int.emod_lt_of_pos (m : Int) hp0
    have er : ((m : Int) % p).toNat = m % P := by rw [hP, ← Int.natCast_emod, Int.toNat_natCast]
    refine ⟨hp0, ⟨hr0, by omega⟩, ?_⟩
    have ed : (m : Int) / p = ((m / P : Nat) : Int) := by rw [hP, ← Int.natCast_ediv]
    have eP : p.toNat = P := by omega
    refine ⟨⟨hp0, by omega⟩, m / P, Nat.div_lt_self hm0 (by omega), rfl, stepG (prodR p t g) (m % P) P, some (tI (prodR p t g)), ?_, fun x hx => (In.prod hp0 t g).1 x (mem_step hx), ?_, _, by rw [hP] at hS iB eg ⊢; exact hS.step hPp iB eg (Nat.mod_lt m (by omega)), ?_⟩
    · rw [er, eP, ed]
      have e : stepG (dI (prodR p t g)) (m % P) P = dI (stepG (prodR p t g) (m % P) P) := by
        unfold stepG dI
        rw [List.length_map, List.map_filterMap]
        congr 1
        funext k
        simp
      rw [e]
    · -- lengths
      by_cases hg : g = []
      · subst hg
        have e : prodR p t [] = [] := by
          refine Tr.ext (trim_trim _) rfl fun k => ?_
          rw [ati_prodR, cv_comm, ati_nil]
          show (0 : Int) % p = 0
          exact Int.zero_emod p
        rw [e]
        exact Nat.zero_le _
      · have h1 := len_prod1 (p := p) (a := t) hg
        obtain ⟨K, hK⟩ : ∃ K, N = K + 1 := ⟨N - 1, by omega⟩
        rw [hK]
        refine len_step (by omega) ?_
        have h2 : (P - 1) * (B.length - 1) ≤ (P - 1) * K := Nat.mul_le_mul_left _ (by omega)
        have h3 : P * K = (P - 1) * K + K := by
          obtain ⟨R, rfl⟩ : ∃ R, P = R + 1 := ⟨P - 1, by omega⟩
          rw [Nat.succ_mul, Nat.add_sub_cancel]
        omega
    · rw [Nat.div_add_mod]; exact eS
  · have hm0 : m = 0 := by have := of_decide_eq_false hm; omega
    subst hm0
    refine ⟨t, 0, rfl, by decide, .here ?_⟩
    have e : ati t (Int.toNat 0) = S0 n.toNat := by
      rw [← eS]
      have h1 := hS.eq 0
      have h2 : mulS (ati B) S 0 = S 0 := by
        show 0 + ati B 0 * S (0 - 0) = _
        rw [b0, Int.one_mul, Int.zero_add]
      rw [h2] at h1
      have h3 := it.at hp0 0
      rw [Int.emod_eq_of_lt (hS.bd 0).1 (hS.bd 0).2, Int.emod_eq_of_lt h3.1 h3.2] at h1
      exact h1.symm
    rw [e]
    exact q S0 hS0
end DL

set_option Elab.async false
set_option linter.all false
set_option maxRecDepth 100000
set_option maxHeartbeats 400000
namespace DL
open PySem PySem.Spec PyProof.Rows L2
open PySem.W (Frag)
variable [TB]

/-! ### is True, is not True -/
def fIsB : DO2 := fun x y M Q => match x, y with
  | .bl a, .bl b => Q (.bl (decide (a = b))) M
  | _, _ => False
def fNotB : DO2 := fun x y M Q => match x, y with
  | .bl a, .bl b => Q (.bl (!decide (a = b))) M
  | _, _ => False
section
variable {X : Cx}
theorem op_fIsB : DOp X (compareOp .Is) fIsB := by
  intro pn xe pins s σ H v u v' u' Q I rv ru h
  obtain ⟨x, y, M, Qd, rx, ry, rh, h, hQ⟩ := h
  unfold fIsB at h
  split at h
  · cases rx; cases ry
    exact op_is_bl (X := X.tr pn xe) pins s σ H _ _ v' u' Q I rv ru ⟨_, _, rfl, rfl, hQ _ _ _ _ .refl rh .bl h⟩
  · exact h.elim
theorem op_fNotB : DOp X (compareOp .IsNot) fNotB := by
  intro pn xe pins s σ H v u v' u' Q I rv ru h
  obtain ⟨x, y, M, Qd, rx, ry, rh, h, hQ⟩ := h
  unfold fNotB at h
  split at h
  · cases rx; cases ry
    exact op_isnot_bl (X := X.tr pn xe) pins s σ H _ _ v' u' Q I rv ru ⟨_, _, rfl, rfl, hQ _ _ _ _ .refl rh .bl h⟩
  · exact h.elim
end
/-! ### isinstance(x, T) of an object -/
structure IsTF (K : Frag) (mg : Str → Option Value) (n : Str) (T : String) (b : Bool) : Prop where
  ex : IsiF K mg n ∧ ∀ C, mg n = some (.ref C) → PySem.W.kitOne K (.ref C) (.type T) = some b
theorem ClsA.ist {K : Frag} {mg : Str → Option Value} {n : Str} {C : Addr} {T : String} {b : Bool} (c : ClsA K mg n C) (m : PySem.W.kitMeta T = true) (s : PySem.W.subIn K (.ref C) (.type T) = some b) : IsTF K mg n T b :=
  ⟨c.isi, fun C' h => by
    have h2 := c.m
    rw [h] at h2
    cases h2
    exact kitB_mk m s⟩
def fIsiO (n : Str) (T : String) (b : Bool) : DCo := fun xs M Q => match xs with
  | [x, .ty T'] => (match objOf M x with
    | some (n', _) => n' = n ∧ T' = T ∧ Q (.bl b) M
    | none => fIsi [x, .ty T'] M Q)
  | _ => False
section
variable {X : Cx} {n : Str} {T : String} {b : Bool}
theorem c_isiO (F : IsTF X.K X.mg n T b) : DCall X (.builtin "isinstance") (fIsiO n T b) := by
  obtain ⟨Z, hk⟩ := F.ex
  obtain ⟨C, hm, cl, ha, hn, htk, hob, hty⟩ := Z.ex
  intro pn xe pins s σ H vs us Q I rv h
  obtain ⟨xs, M, Qd, rx, rh, h, hQ⟩ := h
  unfold fIsiO at h
  split at h
  · rename_i x T'
    split at h
    · rename_i n' fs e
      obtain ⟨rfl, rfl, q⟩ := h
      obtain ⟨v, u, rfl, r, r2⟩ := rx.two
      cases r2
      obtain ⟨a, C', dx, ws, rfl, hc, hea, _⟩ := obj_of rh r e
      rw [hm] at hc
      cases hc
      exact call_isi (X := X.tr pn xe) pins s σ H _ us Q I rv ⟨_, _, .ref C, .type _, b, rfl, .ty _, .base (.ins hea cl ha hn htk hob), hk C hm, hQ _ _ _ _ .refl rh .bl q⟩
    · exact c_isi pn xe pins s σ H vs us Q I rv ⟨_, M, Qd, rx, rh, h, hQ⟩
  · exact h.elim
end
end DL

set_option Elab.async false
set_option linter.all false
set_option maxRecDepth 100000
set_option maxHeartbeats 400000
namespace DL
open PySem PySem.Spec PyProof.Rows L2
open PySem.W (Frag)
variable [TB]
/-! ### common to the laws of rows -/
theorem ne_bl {a b : Bool} {M : HM} {Q : DK} (q : Q (.bl (!decide (a = b))) M) : fNe (.bl a) (.bl b) M Q := by
  refine .inl ⟨rfl, rfl, ?_⟩
  have e : eqD (rd M (.bl a)) (rd M (.bl b)) = decide (a = b) := by
    show (a == b) = _
    by_cases h : a = b <;> simp [h]
  rw [e]; exact q
theorem RowN.self {p : Int} {T B : List Int} (n : RowN p T B) : RowOf p T B T B := ⟨n, .refl _, Nat.le_refl _, Nat.le_refl _⟩
theorem prod_head {p : Int} {b c : List Int} (hp : Pr p) (ib : In p b) (ic : In p c) (hb : ati b 0 ≠ 0) (hc : ati c 0 ≠ 0) : ati (prodR p b c) 0 ≠ 0 := by
  intro z
  rw [ati_prodR, cv_mulS] at z
  have e : mulS (ati b) (ati c) 0 = ati b 0 * ati c 0 := by
    show 0 + ati b 0 * ati c (0 - 0) = _
    rw [Nat.sub_zero, Int.zero_add]
  rw [e] at z
  have h1 := ib.at hp.pos 0
  have h2 := ic.at hp.pos 0
  rcases no_noughtI hp h1.1 h1.2 h2.1 h2.2 z with h | h
  · exact hb h
  · exact hc h
theorem rp_tI {ns : List Int} {M : HM} (h : ∀ x ∈ ns, 0 ≤ x ∧ x < 8) (hl : ns.length ≤ 5000) : rpOk (rd M (tI ns)) := (Rw.ints h).tup.ok (by decide) (by omega)
theorem In.lt10 {p : Int} {ns : List Int} (hp : Pr p) (h : In p ns) : ∀ x ∈ ns, 0 ≤ x ∧ x < 10 := fun x hx => by have := h x hx; have := hp.le; omega
theorem In.lt8 {p : Int} {ns : List Int} (hp : Pr p) (h : In p ns) : ∀ x ∈ ns, 0 ≤ x ∧ x < 8 := fun x hx => by have := h x hx; have := hp.le; omega
theorem one11 {p : Int} (hp : Pr p) : (In p [1] ∧ Tr [1]) ∧ (In p [1, 1] ∧ Tr [1, 1]) := by
  have : 2 ≤ p := by rcases hp with h | h | h <;> omega
  refine ⟨⟨fun x hx => ?_, rfl⟩, ⟨fun x hx => ?_, rfl⟩⟩
  · simp at hx; subst hx; exact ⟨by decide, by omega⟩
  · simp at hx; subst hx; exact ⟨by decide, by omega⟩
theorem dec_self {p : Int} {T B : List Int} : decide (p = p ∧ T = T ∧ B = B) = true := decide_eq_true ⟨rfl, rfl, rfl⟩
theorem mk_row {M1 : HM} {Q : DK} {E : XDK} {p : Int} {A B : List Int} (hp : Pr p) (iA : In p A) (tA : Tr A) (iB : In p B) (tB : Tr B) (hB : ati B 0 ≠ 0) (lA : A.length ≤ 5000) (lB : B.length ≤ 5000)
    (q : ∀ T U, RowOf p A B T U → Q (rowD p T U) M1) : ∀ a, M1 a = none → sp_Row___init__ [.ref a, .int p, tI A, tI B] (mup M1 a (.ins "Row" [])) (fun v M2 => v = .non ∧ RetK Q (.ref a) M2) E := fun a ha =>
  init_ok mup_same hp iA tA iB tB hB lA lB fun T U hr => ⟨rfl, by
    rw [mup_mup]
    refine ⟨_, _, .ins mup_same, ?_⟩
    rw [mdel_mup ha]
    exact q T U hr⟩
theorem nk_top {p : Int} {T B : List Int} : (fl p T B).lookup ("top" : Str) = none := lk_none (by decide +kernel) (by decide +kernel) (by decide +kernel)
theorem nk_bottom {p : Int} {T B : List Int} : (fl p T B).lookup ("bottom" : Str) = none := lk_none (by decide +kernel) (by decide +kernel) (by decide +kernel)
theorem nk_prime {p : Int} {T B : List Int} : (fl p T B).lookup ("prime" : Str) = none := lk_none (by decide +kernel) (by decide +kernel) (by decide +kernel)
theorem nk_beads {p : Int} {T B : List Int} : (fl p T B).lookup ("beads" : Str) = none := lk_none (by decide +kernel) (by decide +kernel) (by decide +kernel)
theorem nk_bead {p : Int} {T B : List Int} : (fl p T B).lookup ("bead" : Str) = none := lk_none (by decide +kernel) (by decide +kernel) (by decide +kernel)
theorem rp_lI {ns : List Int} {M : HM} (h : ∀ x ∈ ns, 0 ≤ x ∧ x < 8) (hl : ns.length ≤ 5000) : rpOk (rd M (lI ns)) := (Rw.ints h).lst.ok (by decide) (by omega)
theorem ext_len {s s' : List Int} (hl : s.length = s'.length) (h : ∀ k, k < s.length → ati s k = ati s' k) : s = s' := by
  apply List.ext_getElem hl
  intro j h1 h2
  have := h j h1
  unfold ati at this
  simpa [h1, h2] using this
theorem mup_comm {M : HM} {a b : Addr} {x y : MO} (h : a ≠ b) : mup (mup M a x) b y = mup (mup M b y) a x := by
  funext c
  by_cases h1 : c = b
  · subst h1; rw [mup_same, mup_ne h.symm, mup_same]
  · by_cases h2 : c = a
    · subst h2; rw [mup_ne h1, mup_same, mup_same]
    · rw [mup_ne h1, mup_ne h2, mup_ne h2, mup_ne h1]
theorem fset_any {M : HM} {a : Addr} {ds : List D} {i : Int} {v : D} {Q : HM → Prop} (h : M a = some (.lst ds)) (h0 : 0 ≤ i) (h1 : i < ds.length) (q : Q (mup M a (.lst (ds.set i.toNat v)))) : fSet (.ref a) (.int i) v M Q := by
  unfold fSet
  dsimp only
  rw [h]
  exact ⟨i, i.toNat, rfl, ixN_lt h0 h1, q⟩
theorem fAdd_tup {xs ys : List D} {M : HM} {Q : DK} (h : xs.length + ys.length ≤ 1000000) (q : Q (.tup (xs ++ ys)) M) : fAdd (.tup xs) (.tup ys) M Q := ⟨h, q⟩
theorem fAdd_lst {xs ys : List D} {M : HM} {Q : DK} (h : xs.length + ys.length ≤ 1000000) (q : Q (.lst (xs ++ ys)) M) : fAdd (.lst xs) (.lst ys) M Q := ⟨h, q⟩
theorem fAdd_int {i j : Int} {M : HM} {Q : DK} (q : Q (.int (i + j)) M) : fAdd (.int i) (.int j) M Q := q
theorem fMul_lst {xs : List D} {k : Int} {M : HM} {Q : DK} (h : -(2 ^ 62) ≤ k ∧ k ≤ 1000000 ∧ xs.length * k.toNat ≤ 1000000) (q : Q (.lst (repD k xs)) M) : fMul (.lst xs) (.int k) M Q := ⟨h, q⟩
end DL

set_option Elab.async false
set_option linter.all false
set_option maxRecDepth 100000
set_option maxHeartbeats 400000
namespace DL
open PySem PySem.Spec PyProof.Rows L2
open PySem.W (Frag)
variable [TB]

/-! ### powers of great ones -/
def fPowW : DO2 := ii fun i j M Q => (0 ≤ j ∧ (Builtin.Int.intBits i : Int) * j ≤ 2 ^ 27) ∧ Q (.int (i ^ j.toNat)) M
theorem op_powW {X : Cx} : OpR X (binaryOp .Pow) (rI (fun i j => 0 ≤ j ∧ (Builtin.Int.intBits i : Int) * j ≤ 2 ^ 27) fun i j => .int (i ^ j.toNat)) := opI fun _ _ _ _ _ _ _ hc q => pow_int hc.1 hc.2 q
theorem op_fPowW {X : Cx} : DOp X (binaryOp .Pow) fPowW := op_ii (zd := fun i j => .int (i ^ j.toNat)) (fun _ _ => op_powW) (fun _ _ _ _ => .int) fun _ _ _ _ h => h
end DL

set_option Elab.async false
set_option linter.all false
set_option maxRecDepth 100000
set_option maxHeartbeats 400000
/-! min, min of a list with a default -/
namespace PySem
namespace DX
open Sem (wp)
section
variable {prog : Program} {w : World} {A : Around} {R : Result → Shared → Prop} {I : Addr} {fp wr : List Addr} {n : Nat} {P : Nat → Value → Prop} {St : Nat → Heap → Prop} {kw : List (Str × Value)}
/-- the walk of min from its second item on, whatever the keywords are -/
theorem minGo (V : Walks prog w A.in1 I fp wr n P St) (bt : Nat → Nat → Bool) (hc : CmpOf prog w A.in1 .Lt P bt) (S : Addr) (hf : S ∉ fp) :
    ∀ (k j : Nat) (s : Shared) (b : Value) (c : Nat), n - (j + 1) = k → j + 1 ≤ n → St (j + 1) s.heap → P (argBest bt j) b →
    s.heap.get? S = some { cls := .type "list", dict := none, data := .seq #[b, b] c, slots := #[] } →
    (∀ v h' tk, P (argBest bt (n - 1)) v → (∀ d o, d ∉ wr → d ≠ S → s.heap.get? d = some o → h'.get? d = some o) → R (.ok (.ret v)) { s with heap := h', toks := tk }) →
    codeAny (model prog w) A (.builtin "min.loop" ⟨[.ref I, .none, .ref S], kw⟩) R s := by
  have hw : S ∉ wr := fun h => hf (V.sub _ h)
  have nm : (toString "min" ++ toString ".loop" : String) = "min.loop" := by decide
  intro k
  induction k with
  | zero =>
    intro j s b c hk hj st pb hS hR
    have e : j + 1 = n := by omega
    refine codeAny_builtin F.entry_min_loop ?_
    rw [Around.under_plainId F.plain_min_loop _]
    refine wpAny_bind (wpAny_seqItems hS rfl ?_)
    refine wpAny_bind (wpAny_tryCatch (V.done s _ _ (e ▸ st) fun h' tk hk' => ?_))
    have hS' := hk' S _ hw hS
    refine wpAny_bind (wpAny_updateSeq hS' rfl (wpAny_bind (wpAny_letGo (wpAny_pure ?_))))
    exact hR b _ tk (by rw [← e]; exact pb) fun d o h1 h2 q => (Heap.get?_update_other _ _ (Ne.symm h2)).trans (hk' d o h1 q)
  | succ k ih =>
    intro j s b c hk hj st pb hS hR
    have lt : j + 1 < n := by omega
    refine codeAny_builtin F.entry_min_loop ?_
    rw [Around.under_plainId F.plain_min_loop _]
    refine wpAny_bind (wpAny_seqItems hS rfl ?_)
    refine wpAny_bind (wpAny_tryCatch (V.item (j + 1) s _ _ lt st fun v h' tk hP st' hk' => ?_))
    have hS' := hk' S _ hw hS
    refine wpAny_bind (wpAny_pure ?_)
    refine wpAny_bind (wpAny_tryCatch (wpAny_holding (wpAny_bind (hc (j + 1) (argBest bt j) v b _ _ _ hP pb ?_))))
    refine wpAny_bind (wpAny_holding (wpAny_truthy_bool ?_))
    refine wpAny_bind (wpAny_letGo (wpAny_pure ?_))
    cases hb : bt (j + 1) (argBest bt j) with
    | true =>
      simp only [if_true]
      refine wpAny_bind (wpAny_updateSeq hS' rfl (wpAny_bind (wpAny_letGo ?_)))
      rw [nm]
      refine wpAny_pure ⟨plainId_quiet F.plain_min_loop _, ih (j + 1) _ v _ (by omega) lt (V.frame _ _ _ st' fun d hd o e => ?_) (by simp only [argBest, hb, if_true]; exact hP) (Heap.get?_update_self _ hS' rfl) fun v' h2 tk2 hP' hk2 => ?_⟩
      · exact (Heap.get?_update_other _ _ (fun h : S = d => hf (by rw [h]; exact hd))).trans e
      · exact hR v' h2 tk2 hP' fun d o h1 h2 q => hk2 d o h1 h2 ((Heap.get?_update_other _ _ (Ne.symm h2)).trans (hk' d o h1 q))
    | false =>
      simp only [Bool.false_eq_true, if_false]
      refine wpAny_bind (wpAny_letGo ?_)
      rw [nm]
      refine wpAny_pure ⟨plainId_quiet F.plain_min_loop _, ih (j + 1) _ b c (by omega) lt st' (by simp only [argBest, hb, Bool.false_eq_true, if_false]; exact pb) hS' fun v' h2 tk2 hP' hk2 => ?_⟩
      exact hR v' h2 tk2 hP' fun d o h1 h2 q => hk2 d o h1 h2 (hk' d o h1 q)
theorem minGo0 (V : Walks prog w A.in1 I fp wr n P St) (bt : Nat → Nat → Bool) (hc : CmpOf prog w A.in1 .Lt P bt) (S : Addr) (hf : S ∉ fp) (hn : 0 < n) {s : Shared} {c : Nat} (st : St 0 s.heap)
    (hS : s.heap.get? S = some { cls := .type "list", dict := none, data := .seq #[] c, slots := #[] })
    (hR : ∀ v h' tk, P (argBest bt (n - 1)) v → (∀ d o, d ∉ wr → d ≠ S → s.heap.get? d = some o → h'.get? d = some o) → R (.ok (.ret v)) { s with heap := h', toks := tk }) :
    codeAny (model prog w) A (.builtin "min.loop" ⟨[.ref I, .none, .ref S], kw⟩) R s := by
  have hw : S ∉ wr := fun h => hf (V.sub _ h)
  have nm : (toString "min" ++ toString ".loop" : String) = "min.loop" := by decide
  refine codeAny_builtin F.entry_min_loop ?_
  rw [Around.under_plainId F.plain_min_loop _]
  refine wpAny_bind (wpAny_seqItems hS rfl ?_)
  refine wpAny_bind (wpAny_tryCatch (V.item 0 s _ _ hn st fun v h' tk hP st' hk' => ?_))
  have hS' := hk' S _ hw hS
  refine wpAny_bind (wpAny_pure ?_)
  refine wpAny_bind (wpAny_updateSeq hS' rfl ?_)
  rw [nm]
  refine wpAny_pure ⟨plainId_quiet F.plain_min_loop _, minGo V bt hc S hf _ 0 _ v _ rfl hn (V.frame _ _ _ st' fun d hd o e => ?_) hP (Heap.get?_update_self _ hS' rfl) fun v' h2 tk2 hP' hk2 => ?_⟩
  · exact (Heap.get?_update_other _ _ (fun h : S = d => hf (by rw [h]; exact hd))).trans e
  · exact hR v' h2 tk2 hP' fun d o h1 h2 q => hk2 d o h1 h2 ((Heap.get?_update_other _ _ (Ne.symm h2)).trans (hk' d o h1 q))
/-- no item: the default -/
theorem minGoN (V : Walks prog w A.in1 I fp wr 0 P St) (S : Addr) (hf : S ∉ fp) {s : Shared} {c : Nat} {d0 : Value} {x : Str} (st : St 0 s.heap)
    (hS : s.heap.get? S = some { cls := .type "list", dict := none, data := .seq #[] c, slots := #[] })
    (hR : ∀ h' tk, (∀ d o, d ∉ wr → s.heap.get? d = some o → h'.get? d = some o) → R (.ok (.ret d0)) { s with heap := h', toks := tk }) :
    codeAny (model prog w) A (.builtin "min.loop" ⟨[.ref I, .none, .ref S], [(x, d0)]⟩) R s := by
  have hw : S ∉ wr := fun h => hf (V.sub _ h)
  refine codeAny_builtin F.entry_min_loop ?_
  rw [Around.under_plainId F.plain_min_loop _]
  refine wpAny_bind (wpAny_seqItems hS rfl ?_)
  refine wpAny_bind (wpAny_tryCatch (V.done s _ _ st fun h' tk hk' => ?_))
  exact wpAny_bind (wpAny_rule (wpAny_pure (hR h' tk hk')))
end
section
variable {prog : Program} {w : World} {A : Around} {E : Value → Shared → Prop} {s : Shared}
theorem args_minD (a b : Value) : argsOk "min" ⟨[a], [(Str.ofString "default", b)]⟩ := by unfold argsOk; kernel_rfl
/-- min(xs, default=d), xs a list of ints -/
theorem call_minD {l : Addr} {xs : Array (Int × Tok)} {d0 : Value} {Q : Value → Shared → Prop} (hh : A.handled = none) (hl : s.heap.IsList l (intItems xs))
    (h0 : xs.size = 0 → ∀ h' tk, (∀ b o, s.heap.get? b = some o → h'.get? b = some o) → Q d0 { s with heap := h', toks := tk })
    (h : 0 < xs.size → ∀ v h' tk, (intItems xs)[argBest (fun i j => decide (numAt xs i < numAt xs j)) (xs.size - 1)]? = some v → (∀ b o, s.heap.get? b = some o → h'.get? b = some o) → Q v { s with heap := h', toks := tk }) :
    wpAny (model prog w) A (call (.builtin "min") [.ref l] [(Str.ofString "default", d0)]) Q E s := by
  have nm : (toString "min" ++ toString ".loop" : String) = "min.loop" := by decide
  refine PyProof.Rows.kmk_tree F.kind_min F.plain_min F.entry_min (args_minD _ _) ?_
  refine wpAny_bind (wpAny_of_eq (show Builtin.Builtins.bindParams "min" ["key", "default"] 0 ⟨[], [(Str.ofString "default", d0)]⟩ = pure [none, some d0] from rfl) ?_)
  refine wpAny_bind (wpAny_pure ?_)
  refine wpAny_bind (iter_intList hl fun s₂ e st hfp hlI => ?_)
  subst e
  refine wpAny_bind (wpAny_newObj_type ?_)
  have hSf : (s.heap.push { cls := .type "list_iterator", data := .fields #[.ref l, .int 0 0] }).objs.size ∉ [s.heap.objs.size, l] := fun hm => Nat.lt_irrefl _ (hfp _ hm)
  have V := Walks.list (prog := prog) (w := w) (A := A.in1) hh s.heap.objs.size l hlI (intItems xs)
  rw [nm]
  have st' := V.frame 0 _ ((s.heap.push { cls := .type "list_iterator", data := .fields #[.ref l, .int 0 0] }).push { cls := .type "list", data := .seq #[] }) st fun b _ o e => Heap.get?_push_of_some _ e
  by_cases hz : xs.size = 0
  · have hz' : (intItems xs).size = 0 := by simpa [intItems] using hz
    rw [hz'] at V
    refine wpAny_pure ⟨plainId_quiet F.plain_min_loop _, minGoN V _ hSf st' (Heap.get?_push_size _ rfl) fun h' tk hk => ?_⟩
    exact h0 hz h' tk (old_kept fun b o hb e => hk b o hb (Heap.get?_push_of_some _ e))
  · have hz' : 0 < (intItems xs).size := by simpa [intItems] using Nat.pos_of_ne_zero hz
    refine wpAny_pure ⟨plainId_quiet F.plain_min_loop _, minGo0 V _ (CmpOf.ints_lt (numAt xs) (fun _ _ => intItems_at)) _ hSf hz' st' (Heap.get?_push_size _ rfl) fun v h' tk hP hk => ?_⟩
    exact h (Nat.pos_of_ne_zero hz) v h' tk (by simpa [intItems] using hP) (old_kept fun b o hb e => hk b o hb (Nat.ne_of_lt (Heap.lt_size e)) (Heap.get?_push_of_some _ e))
end
end DX
end PySem

set_option Elab.async false
set_option linter.all false
set_option maxRecDepth 100000
set_option maxHeartbeats 400000
namespace DL
open PySem PySem.Spec PyProof.Rows L2
open PySem.W (Frag)
variable [TB]

/-! ### min of a list, with a default -/
section
variable {X : Cx}
def fMinD : DCk := fun xs zs M Q => match xs, zs with
  | [x], [d] => ∃ ns : List Int, lstOf M x = some (ns.map .int) ∧ (ns = [] → Q d M) ∧ ∀ m, m ∈ ns → (∀ y ∈ ns, m ≤ y) → Q (.int m) M
  | _, _ => False
theorem c_minD (hc : X.calm = true) : DCallK X (.builtin "min") ["default"] fMinD := by
  intro pn xe pins s σ H vs ws us zs Q I rv rz h
  obtain ⟨xs, ds, M, Qd, rx, rd, rh, h, hQ⟩ := h
  unfold fMinD at h
  split at h
  · obtain ⟨v, rfl, r⟩ := rx.one
    obtain ⟨w, rfl, r2⟩ := rd.one
    obtain ⟨ns, e, q0, q1⟩ := h
    obtain ⟨a, vs, rfl, hs, rs⟩ := lst_of rh r e
    rw [rs.ints] at hs
    obtain ⟨u, rfl, ru⟩ := rv.one
    obtain ⟨z, rfl, rz'⟩ := rz.one
    cases ru
    obtain ⟨its, rl, pl, hz⟩ := I.list hs
    have hi := rl.ints
    obtain ⟨ys, ey⟩ := hi.allInts.items
    have hn : numsOf (intItems ys).toList = ns := by rw [← ey]; exact hi.numsOf
    rw [nums_intItems] at hn
    have hl : s.heap.IsList a (intItems ys) := by rw [← ey]; exact pl.isList
    refine DX.call_minD (I.ok.hd hc) hl (fun h0 h' tk hk => ?_) fun h0 v' h' tk hv hk => ?_
    · have en : ns = [] := by
        rw [← hn]
        exact List.eq_nil_of_length_eq_zero (by simpa using h0)
      exact ⟨w, H, I.kept hk, rz', hQ _ _ _ _ .refl rh r2 (q0 en)⟩
    · obtain ⟨t, rfl⟩ := intItems_at hv
      obtain ⟨h1, h2⟩ := argBest_lt (numAt ys) (ys.size - 1)
      refine ⟨.int _, H, I.kept hk, ⟨_, rfl⟩, hQ _ _ _ _ .refl rh .int (q1 _ ?_ fun y hy => ?_)⟩
      · rw [← hn, numAt_eq]; exact PySem.getD_mem (by rw [List.length_map, Array.length_toList]; omega)
      · rw [← hn] at hy
        obtain ⟨j, hj, rfl⟩ := mem_getD hy
        rw [List.length_map, Array.length_toList] at hj
        rw [← numAt_eq]; exact h2 j (by omega)
  · exact h.elim
end
end DL

set_option Elab.async false
set_option linter.all false
set_option maxRecDepth 100000
set_option maxHeartbeats 400000
namespace DL
open PySem PySem.Spec PyProof.Rows L2
open PySem.W (Frag)
variable [TB]

/-! ### own classes of exceptions with an own __init__ that keeps one field -/
/-- what is wanted of the built-in class below -/
structure XBs (B newId initId : String) (bmB : List Value) : Prop where
  F : ExcBaseFacts B newId initId bmB
  pass : ∀ self, refuseLoop self "__setattr__" bmB = pure ()
  obj : bmB.contains (.type "object") = true
  ty : typeOf (.type B) = pure (.type "type")
  stub : Manifest.isStub B = false
  hin : PySem.W.handedIn (.builtin initId) = true
abbrev bmVE : List Value := [.type "ValueError", .type "Exception", .type "BaseException", .type "object"]
abbrev bmIE : List Value := [.type "IndexError", .type "LookupError", .type "Exception", .type "BaseException", .type "object"]
theorem xbs_ValueError : XBs "ValueError" "ValueError.__new__" "ValueError.__init__" bmVE := ⟨PySem.F.excBase_ValueError, PySem.F.store_ValueError.passes, by decide +kernel, by kernel_rfl, by decide +kernel, by decide +kernel⟩
theorem xbs_IndexError : XBs "IndexError" "IndexError.__new__" "IndexError.__init__" bmIE := ⟨PySem.F.excBase_IndexError, PySem.F.store_IndexError.passes, by decide +kernel, by kernel_rfl, by decide +kernel, by decide +kernel⟩
structure OexB (K : Frag) (C : Addr) (bmB : List Value) (newId : String) : Prop where
  cls : ∃ nm q N bs bm sn sub ab col dd k0 k1 k2 k3 k5, K.lookup C = some (excClassObj nm q C N bs bm true sn sub ab col dd k0 k1 k2 k3 k5 newId) ∧ PySem.W.excTail bmB bm = true
  sa : PySem.W.findIn K (.ref C) "__setattr__" = some (some (.builtin "object.__setattr__"))
  exC : PySem.W.subIn K (.ref C) (.type "BaseException") = some true
  tyC : PySem.W.typeIn K (.ref C) = some (.type "type")
  kC : PySem.W.keepIn K (.ref C) = true
theorem oexB_mk {K : Frag} {C : Addr} {bmB : List Value} {newId : String} (q : PySem.W.excInitIn K C bmB newId = true) (hd : PySem.W.hasDictIn K C = true) (sa : PySem.W.findIn K (.ref C) "__setattr__" = some (some (.builtin "object.__setattr__")))
    (e : PySem.W.subIn K (.ref C) (.type "BaseException") = some true) (t : PySem.W.typeIn K (.ref C) = some (.type "type")) (k : PySem.W.keepIn K (.ref C) = true) : OexB K C bmB newId := by
  refine ⟨?_, sa, e, t, k⟩
  unfold PySem.W.excInitIn at q
  split at q
  · rename_i dd cd sl ho
    split at q
    · rename_i C' bm k0 k1 k2 k3 n k5 hm hs
      simp only [Bool.and_eq_true, beq_iff_eq, Bool.not_eq_true'] at q
      obtain ⟨⟨⟨rfl, rfl⟩, hdel⟩, ht⟩ := q
      have hh : cd.hasDict = true := by
        unfold PySem.W.hasDictIn PySem.W.clsIn at hd
        rw [ho] at hd
        simpa using hd
      obtain ⟨nm, bs, mro, ns, qn, hdct, sn, sub, ab, col, del⟩ := cd
      dsimp only at hm hdel hh
      subst hm hdel hh
      have hsl : sl = #[k0, k1, k2, k3, some (.builtin n), k5] := by
        obtain ⟨l⟩ := sl
        simp only at hs
        rw [hs]
      subst hsl
      exact ⟨nm, qn, ns, bs, bm, sn, sub, ab, col, dd, k0, k1, k2, k3, k5, ho, ht⟩
    · cases q
  · cases q
section
open PySem.W PySem.Calls PySem.HandSPX Builtin Builtin.ObjectAttr
variable {prog : Program} {w : World} {A : Around} {R : Result → Shared → Prop} {hp : Heap} {g : Array GenState} {d : Drawn} {t : Nat} {os : OsState}
/-- object.__setattr__ of an exception that has no dict as yet -/
theorem osaB {K : W.Frag} {name : Str} {tk : Tok} {v : Value} {x C : Addr} {fv : Array Value} {cd : ClassData}
    (X : K.In hp) (hx : hp.get? x = some { cls := .ref C, data := .fields fv }) (hcd : W.clsIn K C = some cd) (hm : ∀ self, refuseLoop self "__setattr__" cd.mro = pure ()) (hob : cd.mro.contains (.type "object") = true) (hh : cd.hasDict = true) (ha : W.findIn K (.ref C) name = some none)
    (hq : ∀ h' tk' dx, (∀ b o, b ≠ x → hp.get? b = some o → h'.get? b = some o) → hp.objs.size ≤ dx → dx ≠ x → h'.get? x = some { cls := .ref C, dict := some dx, data := .fields fv } →
      h'.Ns1 dx (fun y => if y = name then some v else none) → R (.ok (.ret .none)) ⟨h', g, d, tk', os⟩) :
    codeAny (model prog w) A (.call (.builtin "object.__setattr__") ⟨[.ref x, .str name tk, v], []⟩) R ⟨hp, g, d, t, os⟩ := by
  have I : W.InstAt hp x { cls := .ref C, data := .fields fv } C none := ⟨hx, rfl, rfl, trivial⟩
  have SF := F.store_object
  have hne : cd.mro.isEmpty = false := by
    cases e : cd.mro with
    | nil => rw [e] at hob; cases hob
    | cons a r => rfl
  have hxs : x ≠ hp.objs.size := Nat.ne_of_lt (Heap.lt_size hx)
  have sub : W.Looks (model prog w) hp (isInstance (.ref x) (.type "object")) true := I.type.andThen (W.looks_mroIn X (by unfold W.mroIn; rw [hcd, Option.bind_some, if_neg (by rw [hne]; decide), hob]))
  refine codeAny_call_builtin SF.slot.plain SF.entry (@W.check_slot (model prog w) _ _ ⟨hp, g, d, t, os⟩ "object.__setattr__" "object" "__setattr__" (.ref x) [.str name tk, v] [] _ SF.kind SF.split sub (SF.args (.ref x) (.str name tk) v) ?_)
  have hmr : W.Looks (model prog w) hp (mroOf (.ref C)) cd.mro := (W.looks_clsIn X hcd).andThen .now
  have L3 : W.Looks (model prog w) hp (storeTaker? none) none := .now
  have hcls : W.Looks (model prog w) hp (classData C) cd := W.looks_clsIn X hcd
  rw [W.osa_eq, refuse_eq]
  refine wpAny_bind (wpAny_bind (I.type.at (wpAny_bind (hmr.at ?_))))
  rw [hm]
  refine wpAny_pure (wpAny_bind (I.type.at (wpAny_bind ((W.looks_findIn X ha).at (wpAny_bind (L3.at ?_))))))
  show wpAny _ _ (storeInOwnDict (.ref x) (.ref C) (.str name tk) name v false) _ _ _
  obtain ⟨nm, bs, mro, ns, qn, hd, sn, sb, ab, col, del⟩ := cd
  dsimp only at hh
  subst hh
  unfold storeInOwnDict ownDictForStores
  repeat (first | with_reducible refine store_in_new ?_ ?_ | with_reducible refine wpAny_loadPart_at hx ?_ | with_reducible refine hcls.at ?_ | wp_step)
  · exact ⟨_, #[], _, (Heap.get?_update_ne _ _ _ _ hxs.symm).trans (Heap.get?_push_at rfl rfl), rfl, fun e he => absurd he (by simp), fun _ => rfl⟩
  · intro h' tk' hn' hs
    have hx₁ : (hp.push { cls := .type "dict", data := .dict #[] }).get? x = some { cls := .ref C, data := .fields fv } := Heap.get?_push_of_some _ hx
    refine hq h' tk' hp.objs.size (fun b o hb ho => ?_) (Nat.le_refl _) hxs.symm ?_ hn'
    · exact (hs.2 b (Nat.ne_of_lt (Heap.lt_size ho))).trans ((Heap.get?_update_ne _ _ _ _ hb).trans (Heap.get?_push_of_some _ ho))
    · exact (hs.2 x hxs).trans (Heap.get?_update_self _ hx₁ rfl)
end
section
variable {X : Cx} {pins : List (Addr × Obj)} {σ : L2.St} {H : Hp} {s : Shared} {a C : Addr} {f : Str} {y : V} {u : Value} {E : Value → Shared → Prop} {A : Around} {B newId initId : String} {bmB : List Value}
/-- self.f = y -/
theorem osetB (T : OexB X.K C bmB newId) (T0 : XBs B newId initId bmB) (I : Inv X pins σ H s) (e : H a = some (exo a C none)) (hno : PySem.W.findIn X.K (.ref C) f = some none) (ry : RelV y u) {Q : Unit → Shared → Prop}
    (h : ∀ dx s', H dx = none → dx ≠ a → Inv X pins σ (upd (upd H dx (exd dx [(f, y)])) a (exo a C (some dx))) s' → Q () s') : wpAny (model X.prog X.w) A (setAttr (.ref a) f u) Q E s := by
  obtain ⟨nm, q, N, bs, bm, sn, sub, ab, col, dd, k0, k1, k2, k3, k5, hC, hbm⟩ := T.cls
  have hcl : PySem.W.clsIn X.K C = some { name := nm, bases := bs, mro := .ref C :: bm, ns := N, qualname := q, hasDict := true, slotNames := sn, subclasses := sub, abstract := ab, collection := col, hasDel := false } := by unfold PySem.W.clsIn; rw [hC] <;> rfl
  obtain ⟨t1, ho⟩ := exo_at I.hok e
  obtain ⟨hp, g, d, t, os⟩ := s
  have ht : PySem.W.excTail bmB (.ref C :: bm) = true := hbm
  refine PySem.W.set_plain I.kIn (ox := { cls := .ref C, dict := none, data := .fields #[.ref t1, .none, .none, .none, .bool false, .none] }) (od := none) ⟨ho, rfl, rfl, trivial⟩ T.sa ?_
  refine osaB I.kIn ho hcl (fun self => PySem.W.excTail_pass self (T0.pass self) _ ht) ((PySem.W.excTail_contains "object" _ ht).trans T0.obj) rfl hno (fun h' tk' dx k dn dne hx hn => ?_)
  have hnd : H dx = none := I.hok.fresh dn
  have nd : ∀ {b : Addr} {o : Obj}, hp.get? b = some o → b ≠ dx := fun {b o} q => Nat.ne_of_lt (Nat.lt_of_lt_of_le (Heap.lt_size q) dn)
  have na : ∀ {b : Addr}, H b = none → b ≠ a := fun {b} n z => by
    rw [z, e] at n
    cases n
  have Un1 : Un X.fs [] H (upd (upd H dx (exd dx [(f, y)])) a (exo a C (some dx))) hp h' := {
    keep := fun b o q n _ _ => k b o (na n) q
    slot := fun b o q n _ _ => ⟨o.slots, k b o (na n) q⟩
    free := fun b o q n _ => by rw [upd_ne (na n), upd_ne (nd q)]; exact n
    there := fun b o q _ => by
      by_cases hb : b = a
      · exact ⟨_, by rw [hb]; exact hx⟩
      · exact ⟨o, k b o hb q⟩
    tups := fun b xs q => by rw [upd_ne (at_ne e q exo_tup), upd_ne (ne_of_none q hnd)]; exact q
    frzs := fun b o v q => by rw [upd_ne (at_ne e q exo_frz), upd_ne (ne_of_none q hnd)]; exact q
    tbls := fun b ps q => ⟨#[], by rw [upd_ne (at_ne e q exo_tbl), upd_ne (ne_of_none q hnd), q]; simp⟩ }
  refine h dx _ hnd dne (I.un (t' := tk') Un1 fun b o q => ?_)
  by_cases hb : b = a
  · subst hb
    rw [upd_same] at q
    cases q
    exact exo_ok hx
  · rw [upd_ne hb] at q
    by_cases hd : b = dx
    · subst hd
      rw [upd_same] at q
      cases q
      exact exd_ok hn (relO_put (fs := []) ry fun g => True.intro)
    · rw [upd_ne hd] at q
      exact (I.hok b o q).stay (fun c v hc z => k c v (by
          rcases hc with hc | hc
          · rw [hc]
            exact hb
          · exact at_ne e hc exo_own) z)
        (fun c hc => by rw [upd_ne (at_ne e hc exo_own), upd_ne (ne_of_none hc hnd)]; exact hc) (fun c xs hc => by rw [upd_ne (at_ne e hc exo_tup), upd_ne (ne_of_none hc hnd)]; exact hc)
/-- B.__init__(self, ..) -/
theorem oiniB {us : List Value} {Q : Value → Shared → Prop} (T : OexB X.K C bmB newId) (T0 : XBs B newId initId bmB) (I : Inv X pins σ H s) (e : H a = some (exo a C none)) (hl : us.length ≤ sizeLine) (h : ∀ s', Inv X pins σ H s' → Q .none s') :
    wpAny (model X.prog X.w) A (call (.builtin initId) (.ref a :: us)) Q E s := by
  obtain ⟨nm, q, N, bs, bm, sn, sub, ab, col, dd, k0, k1, k2, k3, k5, hC, hbm⟩ := T.cls
  obtain ⟨t1, ho⟩ := exo_at I.hok e
  obtain ⟨hp, g, d, t, os⟩ := s
  refine wpAny_call (PySem.HandSPX.init_base T0.F (fun Y => PySem.W.excTail_contains Y bm hbm) (I.kIn _ _ hC) ho hl fun h' t2 k hx => ?_)
  have J := I.write (t' := t) (x := a) (e := a) (o := exo a C none) (by rw [e]; exact True.intro) (.inl rfl) k ⟨_, hx⟩ (exo_ok hx)
  have eu : upd H a (exo a C none) = H := by
    funext b
    by_cases hb : b = a
    · rw [hb, upd_same, e]
    · rw [upd_ne hb]
  rw [eu] at J
  exact h _ J
end
/-- what the __init__ does -/
def spX (K : Frag) (bmB : List Value) (newId : String) (f : Str) : Sp := fun vs H Q _ => ∃ (a C : Addr) (y : V), vs = [.ref a, y] ∧ OexB K C bmB newId ∧ PySem.W.findIn K (.ref C) f = some none ∧ H a = some (exo a C none) ∧
  ∀ dx, H dx = none → dx ≠ a → Q .non (upd (upd H dx (exd dx [(f, y)])) a (exo a C (some dx)))
section
variable {X : Cx} {B : Str} {Bs newId initId : String} {bmB : List Value} {f v msg : Str} {j : Nat} {p1 p2 p3 p4 p5 p6 p7 p8 p9 p10 : Pos}
theorem ps_xinit {pl : Sem Bool} (T0 : XBs Bs newId initId bmB) (hN : X.N = (["self", v] : List Str)) (hgB : Gl X B) (hmB : X.mg B = none) (hbB : bootBuiltins B = some (.type Bs)) (hnB : B ≠ "__name__") (hdB : (B == ("__debug__" : Str)) = false) (vV : PySem.W.findCls X.K (.type Bs) (.type "type") "__init__" = some (.val (.builtin initId)))
    (v1 : Vis X.env.scope "self") (v2 : Vis X.env.scope v) (hd : (v == ("__debug__" : Str)) = false) (hcd : (v == ("__classdict__" : Str)) = false) {a : Addr} {y : V} {H : Hp} {D : Ends} {C : Addr}
    (T : OexB X.K C bmB newId) (hno : PySem.W.findIn X.K (.ref C) f = some none) (e : H a = some (exo a C none)) (q : ∀ dx, H dx = none → dx ≠ a → D.nx [some (.ref a), some y] (upd (upd H dx (exd dx [(f, y)])) a (exo a C (some dx))))
    (hc : eval (.Call (.Attribute (.Name B p1) "__init__" p2) [.Name "self" p3, .Constant (.str msg) j p4] [] p5) X.env = (do
      let ov ← eval (.Name B p1) X.env
      standAt p2.atName
      let (f, first) ← holding [ov] (getMethod ov "__init__" pl)
      callWith p5 f first (backTo p5 (starEach [.Name "self" p3, .Constant (.str msg) j p4] X.env)) (backToKw p5 (keywordEach [] X.env)))) :
    ∃ t, PSs X [.Expr (.Call (.Attribute (.Name B p1) "__init__" p2) [.Name "self" p3, .Constant (.str msg) j p4] [] p5) p6, .Assign [.Attribute (.Name "self" p7) f p8] (.Name v p9) p10] t ∧ t D [some (.ref a), some y] H := by
  have n0 : X.N[0]? = some ("self" : Str) := by rw [hN]; rfl
  have n1 : X.N[1]? = some v := by rw [hN]; rfl
  have ps : ∀ p, PE X (.Name "self" p) (tVar 0) := fun p => pe_var n0 v1
  have pv : ∀ p, PE X (.Name v p) (tVar 1) := fun p => pe_var n1 v2 hd hcd
  have pa : PA X [.Name "self" p3, .Constant (.str msg) j p4] (tCons (tVar 0) (tCons (tC (.str msg)) tNil)) := pa_cons (ps p3) (pa_cons pe_str pa_nil)
  have h1 : PE X (.Call (.Attribute (.Name B p1) "__init__" p2) [.Name "self" p3, .Constant (.str msg) j p4] [] p5) (fun σ H Q => tCons (tVar 0) (tCons (tC (.str msg)) tNil) σ H fun vs H1 => ∃ (a C : Addr) (ws : List V), vs = .ref a :: ws ∧ ws.length ≤ 1000 ∧ OexB X.K C bmB newId ∧ H1 a = some (exo a C none) ∧ Q .non H1) := by
    refine ⟨fun pins s σ H Q I h => ?_⟩
    refine PySem.W.methodCall_KW (ld_blt I hgB hmB hbB ?_ hnB hdB) hc
    obtain ⟨m, fr⟩ := I.fr
    refine PySem.W.method_type fr I.ok.mod.kin T0.ty T0.stub vV T0.hin ?_
    show wpAny _ _ (callWith p5 (Value.builtin initId) [] (backTo p5 (starEach [.Name "self" p3, .Constant (.str msg) j p4] X.env)) []) _ _ _
    refine PyProof.Rows.callWith_method1 (thn (pa.run p5 pins _ σ H _ (I.tok _) h) fun us s1 ⟨vs, H1, I1, r1, a, C, ws, ev, hl, T, ea, q⟩ => ?_) rfl rfl
    subst ev
    cases r1 with
    | @cons _ u0 _ ur ra rw' =>
      obtain rfl : u0 = Value.ref a := ra
      have hlen : ur.length ≤ sizeLine := by
        rw [← Paired.length rw', sizeLine_eq]
        omega
      exact oiniB T T0 I1 ea hlen fun s' J => ⟨.non, H1, J, rfl, q⟩
  have h2 : PS X (.Assign [.Attribute (.Name "self" p7) f p8] (.Name v p9) p10) (fun D σ H => tVar 1 σ H fun y H1 => tVar 0 σ H1 fun x H2 => ∃ a C : Addr, x = .ref a ∧ OexB X.K C bmB newId ∧ PySem.W.findIn X.K (.ref C) f = some none ∧ H2 a = some (exo a C none) ∧ ∀ dx, H2 dx = none → dx ≠ a → D.nx σ (upd (upd H2 dx (exd dx [(f, y)])) a (exo a C (some dx)))) := by
    refine ⟨fun pins s σ H D I h => ?_⟩
    refine plainObj_wpAny_Assign_Attribute (thn ((pv p9).run pins s σ H _ I h) fun v s1 ⟨y, H1, I1, r1, q1⟩ => thn ((ps p7).run pins s1 σ H1 _ I1 q1) fun u s2 ⟨x, H2, I2, r2, a, C, ex, T, hno, ea, q⟩ => ?_) rfl
    subst ex
    obtain rfl : u = Value.ref a := r2
    exact osetB T T0 I2 ea hno r1 fun dx s' n ne J => ⟨σ, _, J, q dx n ne⟩
  exact ⟨_, pss_cons (ps_expr h1) (pss_one h2), ⟨.ref a, rfl, a, C, [.str msg], rfl, Nat.succ_le_succ (Nat.zero_le _), T, e, ⟨y, rfl, .ref a, rfl, a, C, rfl, T, hno, e, q⟩⟩⟩
end
section
variable {P : Program} {w : World} {K : Frag} {mg : Str → Option Value} {base : Heap} {B qual : Str} {Bs newId initId : String} {bmB : List Value} {f v msg : Str} {j : Nat} {p1 p2 p3 p4 p5 p6 p7 p8 p9 p10 : Pos} {st : Stmt} {fI : Addr} {fd : FuncData}
theorem xinit_ok {pl : Addr → Addr → Value → Sem Bool} (k : Nat) (T0 : XBs Bs newId initId bmB) (R : FunL K "__init__" qual st fI fd) (S : FnScope ["self", v] ["self", v] (defScope st))
    (hb : defBody st = [.Expr (.Call (.Attribute (.Name B p1) "__init__" p2) [.Name "self" p3, .Constant (.str msg) j p4] [] p5) p6, .Assign [.Attribute (.Name "self" p7) f p8] (.Name v p9) p10])
    (hmB : mg B = none) (hbB : bootBuiltins B = some (.type Bs)) (hnB : B ≠ "__name__") (hdB : (B == ("__debug__" : Str)) = false) (vV : PySem.W.findCls K (.type Bs) (.type "type") "__init__" = some (.val (.builtin initId)))
    (hgB : ∀ (L f : Addr) (cd : Value), (envOfC qual (defScope st) L f cd).kindOf B = some .globalImplicit) (v1 : Vis (defScope st) "self") (v2 : Vis (defScope st) v) (hd : (v == ("__debug__" : Str)) = false) (hcd : (v == ("__classdict__" : Str)) = false)
    (hc : ∀ (L fa : Addr) (cd : Value), eval (.Call (.Attribute (.Name B p1) "__init__" p2) [.Name "self" p3, .Constant (.str msg) j p4] [] p5) (envOfC qual (defScope st) L fa cd) = (do
      let ov ← eval (.Name B p1) (envOfC qual (defScope st) L fa cd)
      standAt p2.atName
      let (f, first) ← holding [ov] (getMethod ov "__init__" (pl L fa cd))
      callWith p5 f first (backTo p5 (starEach [.Name "self" p3, .Constant (.str msg) j p4] (envOfC qual (defScope st) L fa cd))) (backToKw p5 (keywordEach [] (envOfC qual (defScope st) L fa cd))))) :
    FnOk P w K mg base CX0 (k + 1) fI fd ["self", v] (spX K bmB newId f) := by
  obtain ⟨oc, od, dV, kV, doc, pm, an, cdv, ct, osl, rfl, lk, hcode⟩ := R.ex
  refine L2.fn_of lk hcode S (fun vs H Q E h => ?_) fun A outer s H vs Q E hr h => ?_
  · obtain ⟨a, C, y, rfl, _⟩ := h
    rfl
  · obtain ⟨a, C, y, rfl, T, hno, ea, q⟩ := h
    rw [hb]
    exact ps_xinit (X := cxOf CX0 P w K mg base ["self", v] qual (defScope st) fI cdv A outer s H E) T0 rfl (hgB _ _ _) hmB hbB hnB hdB vV v1 v2 hd hcd T hno ea q (hc _ _ _)
end
/-- the class n of exceptions is made by an __init__ that keeps the field f -/
structure XMk (P : Program) (w : World) (K : Frag) (mg : Str → Option Value) (base : Heap) (n f : Str) : Prop where
  ex : ∃ (C fI : Addr) (fd : FuncData) (v : Str) (B newId initId : String) (bmB : List Value), mg n = some (.ref C) ∧ OexB K C bmB newId ∧ XBs B newId initId bmB ∧ PySem.W.findIn K (.ref C) f = some none ∧ PySem.W.findIn K (.ref C) "__init__" = some (some (.ref fI)) ∧ PySem.W.typeIn K (.ref fI) = some (.type "function") ∧
    FnOk P w K mg base CX0 1 fI fd ["self", v] (spX K bmB newId f) ∧ Binds K fd ["self", v] []
section
variable {X : Cx} {n f : Str} {e : Expr} {de : DTE} {p pos pos' : Pos}
theorem pmk_oexB {ta : TA} {C fI : Addr} {fd : FuncData} {v : Str} {B newId initId : String} {bmB : List Value} (T : OexB X.K C bmB newId) (T0 : XBs B newId initId bmB) (hno : PySem.W.findIn X.K (.ref C) f = some none) (iC : PySem.W.findIn X.K (.ref C) "__init__" = some (some (.ref fI))) (tI : PySem.W.typeIn X.K (.ref fI) = some (.type "function"))
    (F1 : FnOk X.prog X.w X.K X.mg X.base CX0 1 fI fd ["self", v] (spX X.K bmB newId f)) (hr : Room 2 X.A) (hb : Binds X.K fd ["self", v] []) (hg : Gl X n) (hm : X.mg n = some (.ref C)) (ha : PA X [e] ta)
    (hdb : (n == ("__debug__" : Str)) = false) (he : starEach [e] X.env = (false, eval e X.env) :: starEach [] X.env) :
    PMk X (.Call (.Name n p) [e] [] pos) (fun σ H Q => ta σ H fun vs H1 => ∃ y, vs = [y] ∧ ∀ dx, H1 dx = none → Q (.ref C) (some dx) (upd H1 dx (.xd [(f, y)]))) := by
  intro pins s σ H Q I h
  obtain ⟨nm, q, N, bs, bm, sn, sub, ab, col, dd, k0, k1, k2, k3, k5, hC, hbm⟩ := T.cls
  refine wpAny_Call_Name_kw (ld_glob I hg hm ?_ hdb)
  refine PySem.W.callWith_K (h₀ := X.base) I.ok.mod.kin T.kC (thn (ha.run pos pins s σ H _ I h) fun us s1 ⟨vs, H1, I1, r1, y, ev, q1⟩ => ⟨I1.kIn, ?_⟩) he rfl
  subst ev
  show wpAny _ _ (call (.ref C) us) _ _ _
  obtain ⟨hp, g, dr, tk, os⟩ := s1
  have hsz : hp.objs.size ≤ hp.objs.size + 1 := Nat.le_succ _
  have hn : H1 (hp.objs.size + 1) = none := I1.hok.fresh hsz
  have kk : ∀ b o, hp.get? b = some o → ((hp.push (PySem.W.kdv_tup us)).push (PySem.HandSPX.excO C hp.objs.size)).get? b = some o := fun b o e => Heap.get?_push_of_some _ (Heap.get?_push_of_some _ e)
  have hget : ((hp.push (PySem.W.kdv_tup us)).push (PySem.HandSPX.excO C hp.objs.size)).get? (hp.objs.size + 1) = some (PySem.HandSPX.excO C hp.objs.size) := by heap_get
  have I2 : Inv X pins σ (upd H1 (hp.objs.size + 1) (exo (hp.objs.size + 1) C none)) ⟨(hp.push (PySem.W.kdv_tup us)).push (PySem.HandSPX.excO C hp.objs.size), g, dr, tk, os⟩ :=
    I1.laid (t' := tk) (a := hp.objs.size + 1) (o := exo (hp.objs.size + 1) C none) (h' := (hp.push (PySem.W.kdv_tup us)).push (PySem.HandSPX.excO C hp.objs.size)) kk hsz (exo_ok hget)
  have r2 : Vals [V.ref (hp.objs.size + 1), y] (Value.ref (hp.objs.size + 1) :: us) := .cons rfl r1
  have hl : (Value.ref (hp.objs.size + 1) :: us ++ ([] : List Value)).length = (["self", v] : List Str).length := by
    have e := r2.length
    rw [List.append_nil]
    exact e.symm
  have hus : us.length ≤ sizeLine := by
    rw [← Paired.length r1, sizeLine_eq]
    exact Nat.succ_le_succ (Nat.zero_le _)
  have hq : spX X.K bmB newId f [V.ref (hp.objs.size + 1), y] (upd H1 (hp.objs.size + 1) (exo (hp.objs.size + 1) C none)) (fun v H2 => v = .non ∧ ∃ d, H2 (hp.objs.size + 1) = some (exo (hp.objs.size + 1) C (some d)) ∧ H2 d = some (exd d [(f, y)]) ∧ H1 d = none ∧ Q (.ref C) (some d) (upd (del H2 (hp.objs.size + 1)) d (.xd [(f, y)]))) (fun _ _ _ => False) := by
    refine ⟨_, C, y, rfl, T, hno, upd_same, fun dx hdx hne => ⟨rfl, dx, upd_same, ?_, ?_, ?_⟩⟩
    · rw [upd_ne hne, upd_same]
    · rwa [upd_ne hne] at hdx
    · have hd1 : H1 dx = none := by rwa [upd_ne hne] at hdx
      have e : upd (del (upd (upd (upd H1 (hp.objs.size + 1) (exo (hp.objs.size + 1) C none)) dx (exd dx [(f, y)])) (hp.objs.size + 1) (exo (hp.objs.size + 1) C (some dx))) (hp.objs.size + 1)) dx (.xd [(f, y)]) = upd H1 dx (.xd [(f, y)]) := by
        funext b
        by_cases h1 : b = dx
        · subst h1; rw [upd_same, upd_same]
        · rw [upd_ne h1, upd_ne h1]
          by_cases h2 : b = hp.objs.size + 1
          · subst h2; rw [del_same, hn]
          · rw [del_ne h2, upd_ne h2, upd_ne h1, upd_ne h2]
      rw [e]
      exact q1 dx hd1
  have bnd := hb _ (Value.ref (hp.objs.size + 1) :: us) I2.kIn hl
  rw [List.append_nil] at bnd
  refine wpAny_call (PySem.HandSPX.call_own T0.F (fun Y => PySem.W.excTail_contains Y bm hbm) (I1.kIn _ _ hC) (PySem.W.looks_findIn I1.kIn iC) (fun self => PySem.W.bind_fn I1.kIn self tI) hus
    (codeAny_mono (F1.run _ X.stack _ _ ⟨Value.ref (hp.objs.size + 1) :: us, []⟩ (Value.ref (hp.objs.size + 1) :: us) _ _ (fun _ _ _ => False) (hr.make C us []) (I2.env0.make C us []) bnd r2 hq) fun r s' hq' => ?_))
  cases r with
  | error er => exact (hq'.elim : False).elim
  | ok fl =>
    cases fl with
    | ret u =>
      obtain ⟨v, H2, os2, bare2, un2, hok2, rv, ev, d, ea, ed, hd1, q2⟩ := hq'
      subst ev
      obtain ⟨h2, g2, d2, t2, os'⟩ := s'
      exact ⟨rv, mk_end (raises_own T.exC T.tyC) I1 hsz kk un2 hok2 os2 bare2 ea ed hd1 q2⟩
    | next => exact False.elim hq'
    | brk => exact False.elim hq'
    | cont => exact False.elim hq'
def dRaiseX (n f : Str) (r : DTA) : DTS := fun D σ M => r σ M (fun xs M1 => match xs with
  | [y] => D.ex ⟨n, [(f, y)]⟩ σ M1
  | _ => False) (fun x M1 => D.ex x σ M1)
theorem ds_raiseX {r : DTA} (hc : X.calm = true) (F : XMk X.prog X.w X.K X.mg X.base n f) (hr : Room 2 X.A) (hg : Gl X n) (ha : DA X [e] r) (hdb : (n == ("__debug__" : Str)) = false := by decide) (he : starEach [e] X.env = (false, eval e X.env) :: starEach [] X.env := by rfl) :
    DS X (.Raise (some (.Call (.Name n p) [e] [] pos)) none pos') (dRaiseX n f r) := by
  obtain ⟨C, fI, fd, v, B, newId, initId, bmB, hm, T, T0, hno, iC, tI, F1, hb⟩ := F.ex
  refine ⟨fun pn xe W tk po => PS.weak (ps_raise (X := X.tr pn xe) hc tk.tk (pmk_oexB (X := X.tr pn xe) T T0 hno iC tI F1 hr hb hg hm (ha.run pn xe W tk) hdb he)) ?_⟩
  rintro σ H D ⟨σd, M, Dd, rs, rh, h, hD⟩
  refine ⟨σd, M, _, _, rs, rh, h, hD.ex.he rs, ?_⟩
  intro xs M1 vs H1 e1 rh1 r1 q1
  split at q1
  · rename_i y
    obtain ⟨v, rfl, rv⟩ := r1.one
    refine ⟨v, rfl, fun dx hdx => ?_⟩
    have ex : Ext M1 H1 M1 (upd H1 dx (.xd [(f, v)])) := Ext.new hdx
    have rx : RX X.K X.mg M1 (upd H1 dx (.xd [(f, v)])) ⟨n, [(f, y)]⟩ (.ref C) (some dx) := ⟨.inl hm, (fun z => by cases z), [(f, v)], rh1.free hdx, upd_same, .cons (rv.ext ex) .nil⟩
    exact hD.ex ⟨n, [(f, y)]⟩ σd M1 σ _ (.ref C) (some dx) (e1.trans ex) (rh1.new hdx) ((rs.ext e1).ext ex) rx q1
  · exact q1.elim
end
end DL

set_option Elab.async false
set_option linter.all false
set_option maxRecDepth 100000
set_option maxHeartbeats 400000
namespace DL
open PySem PySem.Spec PyProof.Rows L2
open PySem.W (Frag)
variable [TB]

/-! ### x.m(), x of one of two classes -/
def dMeth2 (n n2 m : Str) (sp sp2 : DSp) (d : DTE) : DTE := fun σ M Q E => d σ M (fun x M1 => ∃ c fs, objOf M1 x = some (c, fs) ∧ fs.lookup m = none ∧ ((c = n ∧ sp [x] M1 Q E) ∨ (c = n2 ∧ sp2 [x] M1 Q E))) E
section
variable {X : Cx} {n n2 m : Str} {ps ps2 : List Str} {k k2 : Nat} {sp sp2 : DSp} {o : Expr} {d : DTE} {pos apos : Pos}
theorem pe_methG20 {E : L2.St → XK} {pl : Sem Bool} {ta : TE} {C C2 f f2 : Addr} {fd fd2 : FuncData} {ds ds2 : List Value} {dvs dvs2 : List V} {sp sp2 : Sp} (he : PE X o ta) (c : Cls X.K C) (hm : Meth X.K C m f) (F : FnG X.prog X.w X.K X.mg X.base k f fd ps sp) (hr : Room k X.A) (hb : Binds X.K fd ps ds) (hd : Vals dvs ds)
    (c2 : Cls X.K C2) (hm2 : Meth X.K C2 m f2) (F2 : FnG X.prog X.w X.K X.mg X.base k2 f2 fd2 ps2 sp2) (hr2 : Room k2 X.A) (hb2 : Binds X.K fd2 ps2 ds2) (hd2 : Vals dvs2 ds2) (hG : X.A.guards = some []) (hx : ∀ σ, PassesAt (L2.CX X.prog X.w) X σ (E σ))
    (ht : eval (.Call (.Attribute o m apos) [] [] pos) X.env = (do
      let ov ← eval o X.env
      standAt apos.atName
      let (f, first) ← holding [ov] (getMethod ov m pl)
      callWith pos f first (backTo pos (starEach [] X.env)) (backToKw pos (keywordEach [] X.env)))) :
    PE X (.Call (.Attribute o m apos) [] [] pos) (fun σ H Q => ta σ H fun x H1 => ∃ a C' dx fs, x = .ref a ∧ H1 a = some (.ins C' dx fs) ∧ fs.lookup m = none ∧ ((C' = C ∧ sp (x :: dvs) H1 Q (E σ)) ∨ (C' = C2 ∧ sp2 (x :: dvs2) H1 Q (E σ)))) := by
  refine ⟨fun pins s σ H Q I h => ?_⟩
  refine PySem.W.methodCall_KW (pl := pl) (thn (he.run pins s σ H _ I h) fun u s1 ⟨x, H1, I1, rx, a, C', dx, fs, ex, ea, l, q⟩ => ?_) ht
  subst ex
  obtain rfl : u = Value.ref a := rx
  rcases q with ⟨rfl, q⟩ | ⟨rfl, q⟩
  · refine getmeth_ok I1 ea c hm l ?_
    exact PySem.W.callWith_K0 (first := [.ref a]) I1.kIn hm.kp (call_fnA (us := [.ref a]) (vs := [.ref a]) F hr hG rfl hb hd (hx σ) I1 (.cons rfl .nil) q)
  · refine getmeth_ok I1 ea c2 hm2 l ?_
    exact PySem.W.callWith_K0 (first := [.ref a]) I1.kIn hm2.kp (call_fnA (us := [.ref a]) (vs := [.ref a]) F2 hr2 hG rfl hb2 hd2 (hx σ) I1 (.cons rfl .nil) q)
theorem de_meth20 {pl : Sem Bool} (F : MFn X.prog X.w X.K X.mg X.base n m ps k [] sp) (hr : Room k X.A) (F2 : MFn X.prog X.w X.K X.mg X.base n2 m ps2 k2 [] sp2) (hr2 : Room k2 X.A) (hG : X.A.guards = some []) (ho : DE X o d)
    (ht : eval (.Call (.Attribute o m apos) [] [] pos) X.env = (do
      let ov ← eval o X.env
      standAt apos.atName
      let (f, first) ← holding [ov] (getMethod ov m pl)
      callWith pos f first (backTo pos (starEach [] X.env)) (backToKw pos (keywordEach [] X.env))) := by rfl) :
    DE X (.Call (.Attribute o m apos) [] [] pos) (dMeth2 n n2 m sp sp2 d) := by
  obtain ⟨C, f, fd, vs0, ds, hm, cl, mt, hd, hrv, hb, G⟩ := F.ex
  obtain ⟨C2, f2, fd2, vs02, ds2, hm2, cl2, mt2, hd2, hrv2, hb2, G2⟩ := F2.ex
  refine ⟨fun pn xe W tk => PE.weak (pe_methG20 (X := X.tr pn xe) (E := WE W) (pl := pl) (ho.run pn xe W tk) cl mt G hr hb hd cl2 mt2 G2 hr2 hb2 hd2 hG (fun σ => passAt tk.tk σ) ht) ?_⟩
  rintro σ H Q ⟨σd, M, Qd, Ed, rs, rh, h, hE, hQ⟩
  refine ⟨σd, M, _, Ed, rs, rh, h, hE, fun x M1 v H1 e1 rh1 r1 ⟨c, fs, hob, hl, q1⟩ => ?_⟩
  obtain ⟨a, C', dx, vs, rfl, hc, hea, rf⟩ := obj_of rh1 r1 hob
  refine ⟨a, C', dx, vs, rfl, hea, rf.nil_of hl, ?_⟩
  rcases q1 with ⟨rfl, q1⟩ | ⟨rfl, q1⟩
  · rw [hm] at hc
    cases hc
    exact .inl ⟨rfl, _, M1, Qd, Ed, .cons r1 (hrv M1 H1), rh1, q1, hQ.ext e1, fun x M' H' cls dd e' rh' rx q => hE x M' H' cls dd (e1.trans e') rh' rx q⟩
  · rw [hm2] at hc
    cases hc
    exact .inr ⟨rfl, _, M1, Qd, Ed, .cons r1 (hrv2 M1 H1), rh1, q1, hQ.ext e1, fun x M' H' cls dd e' rh' rx q => hE x M' H' cls dd (e1.trans e') rh' rx q⟩
end
end DL

set_option Elab.async false
set_option linter.all false
set_option maxRecDepth 100000
set_option maxHeartbeats 400000
namespace DL
open PySem PySem.Spec PyProof.Rows L2
open PySem.W (Frag)
variable [TB]

/-! ### isinstance(x, (T, U)), T and U built-in -/
def dIsi2 (n1 n2 : String) (d : DTE) : DTE := fun σ M Q E => d σ M (fun x M1 => ∃ t, tyOf M1 x = some t ∧ Q (.bl (isB t n1 || isB t n2)) M1) E
section
variable {X : Cx} {e : Expr} {d : DTE} {n1 n2 : String} {x1 x2 : Str} {k : Nat} {p p1 p2 tp pos : Pos}
theorem de_isi2 (hgi : Gl X "isinstance") (hmi : X.mg "isinstance" = none) (he : DE X e d) (hg1 : Gl X x1) (hm1 : X.mg x1 = none) (hv1 : bootBuiltins x1 = some (.type n1)) (hg2 : Gl X x2) (hm2 : X.mg x2 = none) (hv2 : bootBuiltins x2 = some (.type n2))
    (t1 : n1 ∈ tyNames := by decide) (t2 : n2 ∈ tyNames := by decide) (hn1 : x1 ≠ "__name__" := by decide) (hd1 : (x1 == ("__debug__" : Str)) = false := by decide) (hn2 : x2 ≠ "__name__" := by decide) (hd2 : (x2 == ("__debug__" : Str)) = false := by decide)
    (hs : starEach [e, .Tuple [.Name x1 p1, .Name x2 p2] k tp] X.env = (false, eval e X.env) :: starEach [.Tuple [.Name x1 p1, .Name x2 p2] k tp] X.env := by rfl) (hs2 : starEach [(.Tuple [.Name x1 p1, .Name x2 p2] k tp : Expr)] X.env = (false, eval (.Tuple [.Name x1 p1, .Name x2 p2] k tp) X.env) :: starEach [] X.env := by rfl) (hpl : (backTo pos (starEach [(.Tuple [.Name x1 p1, .Name x2 p2] k tp : Expr)] X.env)).any (·.1) = false := by rfl)
    (hs3 : starEach [(.Name x1 p1 : Expr), .Name x2 p2] X.env = (false, eval (.Name x1 p1) X.env) :: starEach [.Name x2 p2] X.env := by rfl) (hs4 : starEach [(.Name x2 p2 : Expr)] X.env = (false, eval (.Name x2 p2) X.env) :: starEach [] X.env := by rfl) :
    DE X (.Call (.Name "isinstance" p) [e, .Tuple [.Name x1 p1, .Name x2 p2] k tp] [] pos) (dIsi2 n1 n2 d) := by
  refine ⟨fun pn xe W tk => PE.weak (pe_callB (X := X.tr pn xe) (call_isiT (X := X.tr pn xe)) hgi hmi bb_isinstance (pa_cons (X := X.tr pn xe) (he.run pn xe W tk) (pa_cons (X := X.tr pn xe) (pe_tup (pa_cons (X := X.tr pn xe) (pe_bltn (X := X.tr pn xe) (v := .ty n1) hg1 hm1 hv1 rfl hn1 hd1) (pa_cons (X := X.tr pn xe) (pe_bltn (X := X.tr pn xe) (v := .ty n2) hg2 hm2 hv2 rfl hn2 hd2) pa_nil hs4) hs3)) pa_nil hs2) hs) (by decide) (by decide) hs hpl) ?_⟩
  rintro σ H Q ⟨σd, M, Qd, Ed, rs, rh, h, hE, hQ⟩
  refine ⟨σd, M, _, Ed, rs, rh, h, hE, fun x M1 v H1 e1 rh1 r1 ⟨t, ht, q1⟩ => ?_⟩
  have k1 := kit_ty (K := X.K) (kitB_is t (tyOf_mem ht) _ t1)
  have k2 := kit_ty (K := X.K) (kitB_is t (tyOf_mem ht) _ t2)
  refine ⟨le_line (by show 2 ≤ 1000000; decide), fun q hq => ⟨v, q, [.ty n1, .ty n2], .type t, [.type n1, .type n2], isB t n1 || isB t n2, rfl, upd_same, .cons (.ty _) (.cons (.ty _) .nil), ?_, ?_, ?_⟩⟩
  · exact ty_of (rh1.new hq) (r1.ext (.new hq)) ht
  · refine kitAny_cons k1 (fun hb => ?_) (fun hb => by rw [hb]; rfl)
    rw [hb, Bool.false_or]
    refine kitAny_cons k2 (fun hb => ?_) (fun hb => hb)
    rw [hb]; rfl
  · exact hQ _ _ _ _ (e1.trans (.new hq)) (rh1.new hq) .bl q1
end
end DL

set_option Elab.async false
set_option linter.all false
set_option maxRecDepth 100000
set_option maxHeartbeats 400000
namespace DL
open PySem PySem.Spec PyProof.Rows L2
open PySem.W (Frag)
variable [TB]
/-! ### books -/
abbrev Pg := Int × Int × List Int
def pgD (x : Pg) : D := .tup [.int x.1, .int x.2.1, tI x.2.2]
def bfl (p : Int) (l : List Pg) : List (Str × D) := [("base", .int p), ("leaves", .tup (l.map pgD))]
def bookD (p : Int) (l : List Pg) : D := .obj "Book" (bfl p l)
/-- a thing that has the prime p -/
def HasP (p : Int) (x : D) : Prop := (∃ T U, x = rowD p T U) ∨ (∃ l, x = bookD p l)
theorem hasP_row {p : Int} {T U : List Int} : HasP p (rowD p T U) := .inl ⟨T, U, rfl⟩
theorem hasP_book {p : Int} {l : List Pg} : HasP p (bookD p l) := .inr ⟨l, rfl⟩
def sp_need_like : DSp := fun xs M Q E => ∃ x y p p', xs = [x, y] ∧ HasP p x ∧ HasP p' y ∧ (p ≠ p' → E ⟨"Unlike", []⟩ M) ∧ (p = p' → Q (.int p) M)
/-! ### a Book's fields -/
theorem nBL : ¬ (("base" : Str) = "leaves") := by decide +kernel
theorem ob_book {M : HM} {p : Int} {l : List Pg} : objOf M (bookD p l) = some (("Book" : Str), bfl p l) := rfl
theorem lkb_base {p : Int} {l : List Pg} : (bfl p l).lookup ("base" : Str) = some (.int p) := lk_eq
theorem lkb_leaves {p : Int} {l : List Pg} : (bfl p l).lookup ("leaves" : Str) = some (.tup (l.map pgD)) := by unfold bfl; rw [lk_ne nBL, lk_eq]
theorem lkb_none {p : Int} {l : List Pg} {x : Str} (h1 : ¬ (("base" : Str) = x)) (h2 : ¬ (("leaves" : Str) = x)) : (bfl p l).lookup x = none := by
  unfold bfl; rw [lk_ne h1, lk_ne h2]; rfl
theorem nkb_prime {p : Int} {l : List Pg} : (bfl p l).lookup ("prime" : Str) = none := lkb_none (by decide +kernel) (by decide +kernel)
theorem nkb_pages {p : Int} {l : List Pg} : (bfl p l).lookup ("pages" : Str) = none := lkb_none (by decide +kernel) (by decide +kernel)
theorem nkb_multiplier {p : Int} {l : List Pg} : (bfl p l).lookup ("multiplier" : Str) = none := lkb_none (by decide +kernel) (by decide +kernel)
theorem nkb_addend {p : Int} {l : List Pg} : (bfl p l).lookup ("addend" : Str) = none := lkb_none (by decide +kernel) (by decide +kernel)
def sp_Book_prime : DSp := fun xs M Q _ => ∃ p l, xs = [bookD p l] ∧ Q (.int p) M
def b_Book_prime : DTS := (dRet (dFld "Book" "base" (dVar 0)))
theorem hd_Book_prime : ∀ (xs : List D) (M : HM) (Q : DK) (E : XDK), sp_Book_prime xs M Q E → xs.length = (["self"] : List Str).length ∧ b_Book_prime (ends Q E) (startD (["self"] : List Str).length xs) M := by
  rintro xs M Q E ⟨p, l, rfl, q⟩
  refine ⟨rfl, ?_⟩
  simp only [b_Book_prime, dNext, dSeq, dDrop, dRet, dRetN, dIf, dCall, dCB, dCBK, dCons, dNil, dVar, dC, dOp, dB, dTru, dAndT, dOrT, dNotT, dAndV, dOrV, dNotV, dIfE, dChain, dTup, dLst, dSl, dPart, dNoPart, dgName, dgTup, dgCons, dgNil, dgSub, dAsg, dPar, dAug, dNeg, ends, fLt, fLe, fGt, fGe, fSub, fMod, fDiv, fPow, fAdd, fMul, iAddI, iSubI, ii, fInt, fMax2, fMin2, fLen, fTuple, fList, List.length_cons, List.length_nil, List.map_cons, List.map_nil, startD, List.replicate, List.cons_append, List.nil_append, List.append_nil, Nat.zero_add, Nat.reduceAdd, Nat.reduceSub, List.getElem?_cons_succ, List.getElem?_cons_zero, List.set_cons_zero, List.set_cons_succ, wipeD, dFld, dFldSet, dMeth, dMake, dIsO, dFmt, dJs, dStep, dRaise0, iDivI, iModI, iMulI, dRaiseX, dMeth2, dIsi2]
  exact ⟨_, _, ob_book, lkb_base, .here q⟩
/-! ### need_like of rows and books -/
def b_need_like : DTS := (dSeq (dIf (dB (dOp fNe (dMeth2 "Row" "Book" "prime" sp_Row_prime sp_Book_prime (dVar 0)) (dMeth2 "Row" "Book" "prime" sp_Row_prime sp_Book_prime (dVar 1)))) (dRaise0 "Unlike") dNext) (dRet (dMeth2 "Row" "Book" "prime" sp_Row_prime sp_Book_prime (dVar 0))))
theorem hd_need_like : ∀ (xs : List D) (M : HM) (Q : DK) (E : XDK), sp_need_like xs M Q E → xs.length = (["one", "other"] : List Str).length ∧ b_need_like (ends Q E) (startD (["one", "other"] : List Str).length xs) M := by
  rintro xs M Q E ⟨x, y, p, p', rfl, hx, hy, h1, h2⟩
  refine ⟨rfl, ?_⟩
  simp only [b_need_like, dNext, dSeq, dDrop, dRet, dRetN, dIf, dCall, dCB, dCBK, dCons, dNil, dVar, dC, dOp, dB, dTru, dAndT, dOrT, dNotT, dAndV, dOrV, dNotV, dIfE, dChain, dTup, dLst, dSl, dPart, dNoPart, dgName, dgTup, dgCons, dgNil, dgSub, dAsg, dPar, dAug, dNeg, ends, fLt, fLe, fGt, fGe, fSub, fMod, fDiv, fPow, fAdd, fMul, iAddI, iSubI, ii, fInt, fMax2, fMin2, fLen, fTuple, fList, List.length_cons, List.length_nil, List.map_cons, List.map_nil, startD, List.replicate, List.cons_append, List.nil_append, List.append_nil, Nat.zero_add, Nat.reduceAdd, Nat.reduceSub, List.getElem?_cons_succ, List.getElem?_cons_zero, List.set_cons_zero, List.set_cons_succ, wipeD, dFld, dFldSet, dMeth, dMake, dIsO, dFmt, dJs, dStep, dRaise0, iDivI, iModI, iMulI, dRaiseX, dMeth2, dIsi2]
  have pr : ∀ {z : D} {r : Int} {Q' : DK} {E' : XDK}, HasP r z → Q' (.int r) M → ∃ c fs, objOf M z = some (c, fs) ∧ List.lookup ("prime" : Str) fs = none ∧ ((c = "Row" ∧ sp_Row_prime [z] M Q' E') ∨ (c = "Book" ∧ sp_Book_prime [z] M Q' E')) := by
    rintro z r Q' E' (⟨T, U, rfl⟩ | ⟨l, rfl⟩) q'
    · exact ⟨_, _, ob_row, nk_prime, .inl ⟨rfl, _, _, _, rfl, q'⟩⟩
    · exact ⟨_, _, ob_book, nkb_prime, .inr ⟨rfl, _, _, rfl, q'⟩⟩
  refine pr hx (pr hy (ne_int ⟨fun h => ?_, fun h => ?_⟩))
  · exact ⟨M, fun _ _ => rfl, h1 (by simpa using h)⟩
  · exact pr hx (.here (h2 (by simpa using h)))
end DL

set_option Elab.async false
set_option linter.all false
set_option maxRecDepth 100000
set_option maxHeartbeats 400000
namespace DL
open PySem PySem.Spec PyProof.Rows L2
open PySem.W (Frag)
variable [TB]
/-! ### rows by all their beads -/
structure RSe (p : Int) (S : Nat → Int) (T U : List Int) : Prop where
  n : RowN p T U
  s : Ser p T U S
theorem RSe.cross {p : Int} {S S' : Nat → Int} {T U T' U' : List Int} (h : RSe p S T U) (h' : RSe p S' T' U') (e : ∀ n, S n = S' n) : Cg p (mulS (ati T) (ati U')) (mulS (ati T') (ati U)) := by
  have e' : S = S' := funext e
  subst e'
  refine (h.s.eq.symm.mul (.refl _)).trans ?_
  refine (Cg.comm _ _).trans ((Cg.swap _ _ _).trans ((Cg.comm _ _).trans ?_))
  exact h'.s.eq.mul (.refl _)
theorem RSe.eq {p : Int} {S S' : Nat → Int} {T U T' U' : List Int} (hp : Pr p) (h : RSe p S T U) (h' : RSe p S' T' U') (e : ∀ n, S n = S' n) : T = T' ∧ U = U' := row_unique hp h.n h'.n (h.cross h' e)
theorem RowN.u0 {p : Int} {T U : List Int} (h : RowN p T U) : ati U 0 ≠ 0 := by rw [h.b0]; decide
theorem RSe.iff {p : Int} {S S' : Nat → Int} {T U T' U' : List Int} (hp : Pr p) (h : RSe p S T U) (h' : RSe p S' T' U') : (T = T' ∧ U = U') ↔ ∀ n, S n = S' n := by
  refine ⟨fun e n => ?_, h.eq hp h'⟩
  obtain ⟨rfl, rfl⟩ := e
  exact h.s.uniq hp h.n.iB h.n.u0 h'.s n
theorem RowN.ser {p : Int} {T U : List Int} (hp : Pr p) (h : RowN p T U) : ∃ S, RSe p S T U := by
  obtain ⟨S, hS⟩ := ser_ex (a := T) hp h.iB h.u0
  exact ⟨S, h, hS⟩
theorem Ser.fn {p : Int} {a b : List Int} {S S' : Nat → Int} (h : Ser p a b S) (e : ∀ n, S n = S' n) : Ser p a b S' := by
  have : S = S' := funext e
  rw [← this]; exact h
/-- a Row of a fraction whose beads are known -/
theorem mk_rowS {M1 : HM} {Q : DK} {E : XDK} {p : Int} {A B : List Int} {S : Nat → Int} (hp : Pr p) (iA : In p A) (tA : Tr A) (iB : In p B) (tB : Tr B) (hB : ati B 0 ≠ 0) (lA : A.length ≤ 5000) (lB : B.length ≤ 5000) (hS : Ser p A B S)
    (q : ∀ T U, RSe p S T U → T.length ≤ A.length → U.length ≤ B.length → Q (rowD p T U) M1) : ∀ a, M1 a = none → sp_Row___init__ [.ref a, .int p, tI A, tI B] (mup M1 a (.ins "Row" [])) (fun v M2 => v = .non ∧ RetK Q (.ref a) M2) E :=
  mk_row hp iA tA iB tB hB lA lB fun T U h => q T U ⟨h.toRowN, hS.cross hp iB hB h.cross.symm⟩ h.lT h.lB
theorem add_at {p : Int} {a b : List Int} {s : Int} (k : Nat) : ati (trim (zipR (max a.length b.length) fun n => (ati a n + s * ati b n) % p)) k = (ati a k + s * ati b k) % p := sum_at k
theorem In.add {p : Int} (hp : 0 < p) (a b : List Int) (f : Nat → Int) : In p (DL.trim (zipR (max a.length b.length) fun n => f n % p)) ∧ Tr (DL.trim (zipR (max a.length b.length) fun n => f n % p)) := ⟨(In.zip hp).trim, trim_trim _⟩
/-- sums and differences of beads -/
theorem Ser.lin {p : Int} (hp : 0 < p) {a b a' b' : List Int} {S S' : Nat → Int} (h : Ser p a b S) (h' : Ser p a' b' S') (c : Int) {z : List Int} (hz : ∀ k, ati z k % p = (ati (prodR p a b') k + c * ati (prodR p a' b) k) % p) :
    Ser p z (prodR p b b') (fun n => (S n + c * S' n) % p) := by
  refine ⟨fun n => ⟨Int.emod_nonneg _ (by omega), Int.emod_lt_of_pos _ hp⟩, ?_⟩
  have e0 : Cg p (fun n => (S n + c * S' n) % p) (fun n => S n + c * S' n) := fun n => Int.emod_emod ..
  refine ((prod_cg p b b').mul e0).trans ?_
  refine Cg.trans (fun n => by rw [mulS_add, mulS_scal]) ?_
  refine Cg.trans (g := fun n => ati (prodR p a b') n + c * ati (prodR p a' b) n) ?_ (fun n => (hz n).symm)
  refine Cg.add ?_ (Cg.scal c ?_)
  · refine Cg.trans ?_ (prod_cg p a b').symm
    refine ((Cg.comm _ _).mul (.refl _)).trans ((Cg.assoc _ _ _).trans ?_)
    exact ((Cg.refl _).mul h.eq).trans (.comm _ _)
  · refine Cg.trans ?_ (prod_cg p a' b).symm
    refine (Cg.assoc _ _ _).trans ?_
    exact ((Cg.refl _).mul h'.eq).trans (.comm _ _)
theorem Ser.prod {p : Int} (hp : 0 < p) {a b a' b' : List Int} {S S' : Nat → Int} (h : Ser p a b S) (h' : Ser p a' b' S') : Ser p (prodR p a a') (prodR p b b') (fun n => mulS S S' n % p) := by
  refine ⟨fun n => ⟨Int.emod_nonneg _ (by omega), Int.emod_lt_of_pos _ hp⟩, ?_⟩
  have e0 : Cg p (fun n => mulS S S' n % p) (mulS S S') := fun n => Int.emod_emod ..
  refine ((prod_cg p b b').mul e0).trans (Cg.trans ?_ (prod_cg p a a').symm)
  -- (b b') (S S') = (b S) (b' S')
  refine (Cg.assoc _ _ _).trans ?_
  refine ((Cg.refl _).mul (Cg.swap _ _ _)).trans ?_
  refine (Cg.assoc _ _ _).symm.trans ?_
  exact h.eq.mul h'.eq
/-! ### sums, differences, products -/
def sp_lin (c : Int) : DSp := fun xs M Q E => ∃ p T U p' T' U', xs = [rowD p T U, rowD p' T' U'] ∧ (p ≠ p' → E ⟨"Unlike", []⟩ M) ∧ (p = p' → Pr p ∧ T.length ≤ 400 ∧ U.length ≤ 400 ∧ T'.length ≤ 400 ∧ U'.length ≤ 400 ∧ ∃ S S', RSe p S T U ∧ RSe p S' T' U' ∧
  ∀ T3 U3, RSe p (fun n => (S n + c * S' n) % p) T3 U3 → T3.length ≤ max (T.length + U'.length) (T'.length + U.length) - 1 → U3.length ≤ U.length + U'.length → Q (rowD p T3 U3) M)
def sp_plus : DSp := sp_lin 1
def sp_minus : DSp := sp_lin (-1)
theorem len_zip {m : Nat} {f : Nat → Int} : (trim (zipR m f)).length ≤ m := Nat.le_trans (trim_len _) (by simp [zipR])
def b_plus : DTS := (dSeq (dAsg (dCall sp_need_like (dCons (dVar 0) (dCons (dVar 1) dNil))) (dgName 2)) (dSeq (dPar 3 4 (dCons (dCall sp_product (dCons (dVar 2) (dCons (dMeth "Row" "top" sp_Row_top [] (dVar 0) dNil) (dCons (dMeth "Row" "bottom" sp_Row_bottom [] (dVar 1) dNil) dNil)))) (dCons (dCall sp_product (dCons (dVar 2) (dCons (dMeth "Row" "top" sp_Row_top [] (dVar 1) dNil) (dCons (dMeth "Row" "bottom" sp_Row_bottom [] (dVar 0) dNil) dNil)))) dNil))) (dRet (dMake "Row" sp_Row___init__ [] (dCons (dVar 2) (dCons (dCall sp_added (dCons (dVar 2) (dCons (dVar 3) (dCons (dVar 4) dNil)))) (dCons (dCall sp_product (dCons (dVar 2) (dCons (dMeth "Row" "bottom" sp_Row_bottom [] (dVar 0) dNil) (dCons (dMeth "Row" "bottom" sp_Row_bottom [] (dVar 1) dNil) dNil)))) dNil)))))))
theorem hd_plus : ∀ (xs : List D) (M : HM) (Q : DK) (E : XDK), sp_plus xs M Q E → xs.length = (["one", "other"] : List Str).length ∧ b_plus (ends Q E) (startD (["one", "other", "prime", "first", "second"] : List Str).length xs) M := by
  rintro xs M Q E ⟨p, T, U, p', T', U', rfl, h1, h2⟩
  refine ⟨rfl, ?_⟩
  simp only [b_plus, dNext, dSeq, dDrop, dRet, dRetN, dIf, dCall, dCB, dCBK, dCons, dNil, dVar, dC, dOp, dB, dTru, dAndT, dOrT, dNotT, dAndV, dOrV, dNotV, dIfE, dChain, dTup, dLst, dSl, dPart, dNoPart, dgName, dgTup, dgCons, dgNil, dgSub, dAsg, dPar, dAug, dNeg, ends, fLt, fLe, fGt, fGe, fSub, fMod, fDiv, fPow, fAdd, fMul, iAddI, iSubI, ii, fInt, fMax2, fMin2, fLen, fTuple, fList, List.length_cons, List.length_nil, List.map_cons, List.map_nil, startD, List.replicate, List.cons_append, List.nil_append, List.append_nil, Nat.zero_add, Nat.reduceAdd, Nat.reduceSub, List.getElem?_cons_succ, List.getElem?_cons_zero, List.set_cons_zero, List.set_cons_succ, wipeD, dFld, dFldSet, dMeth, dMake, dIsO, dFmt, dJs, dStep, dRaise0, iDivI, iModI, iMulI]
  refine ⟨_, _, p, p', rfl, hasP_row, hasP_row, fun h => ⟨M, fun _ _ => rfl, h1 h⟩, fun h => ?_⟩
  obtain ⟨hp, lT, lU, lT', lU', S, S', r, r', q⟩ := h2 h
  subst h
  have hp0 := hp.pos
  have hp5 := hp.le
  refine ⟨_, ob_row, nk_top, _, _, _, rfl, _, ob_row, nk_bottom, _, _, _, rfl, p, T, U', rfl, hp0, by omega, by omega, In.bd r.n.iT (by omega), In.bd r'.n.iB (by omega), ?_⟩
  refine ⟨_, ob_row, nk_top, _, _, _, rfl, _, ob_row, nk_bottom, _, _, _, rfl, p, T', U, rfl, hp0, by omega, by omega, In.bd r'.n.iT (by omega), In.bd r.n.iB (by omega), ?_⟩
  have l1 := len_prod1 (p := p) (a := T) r'.n.ne
  have l2 := len_prod1 (p := p) (a := T') r.n.ne
  have lu := List.length_pos_iff.mpr r.n.ne
  have lu' := List.length_pos_iff.mpr r'.n.ne
  have l3 := len_prod p U U'
  refine ⟨p, prodR p T U', prodR p T' U, rfl, hp0, by omega, by omega, ?_⟩
  refine ⟨_, ob_row, nk_bottom, _, _, _, rfl, _, ob_row, nk_bottom, _, _, _, rfl, p, U, U', rfl, hp0, by omega, by omega, In.bd r.n.iB (by omega), In.bd r'.n.iB (by omega), ?_⟩
  have e : (trim (zipR (max (prodR p T U').length (prodR p T' U).length) fun k => (ati (prodR p T U') k + ati (prodR p T' U) k) % p)) = (trim (zipR (max (prodR p T U').length (prodR p T' U).length) fun k => (ati (prodR p T U') k + 1 * ati (prodR p T' U) k) % p)) := by simp only [Int.one_mul]
  rw [e]
  have lz : (trim (zipR (max (prodR p T U').length (prodR p T' U).length) fun k => (ati (prodR p T U') k + 1 * ati (prodR p T' U) k) % p)).length ≤ max (prodR p T U').length (prodR p T' U).length := len_zip
  have iz := In.add hp0 (prodR p T U') (prodR p T' U) fun k => ati (prodR p T U') k + 1 * ati (prodR p T' U) k
  refine mk_rowS hp iz.1 iz.2 (In.prod hp0 U U').1 (In.prod hp0 U U').2 (prod_head hp r.n.iB r'.n.iB r.n.u0 r'.n.u0) (by omega) (by omega) (Ser.lin hp0 r.s r'.s 1 fun k => by rw [add_at, Int.emod_emod]) fun T3 U3 r3 l4 l5 => .here (q T3 U3 r3 (by omega) (by omega))
def b_minus : DTS := (dSeq (dAsg (dCall sp_need_like (dCons (dVar 0) (dCons (dVar 1) dNil))) (dgName 2)) (dSeq (dPar 3 4 (dCons (dCall sp_product (dCons (dVar 2) (dCons (dMeth "Row" "top" sp_Row_top [] (dVar 0) dNil) (dCons (dMeth "Row" "bottom" sp_Row_bottom [] (dVar 1) dNil) dNil)))) (dCons (dCall sp_product (dCons (dVar 2) (dCons (dMeth "Row" "top" sp_Row_top [] (dVar 1) dNil) (dCons (dMeth "Row" "bottom" sp_Row_bottom [] (dVar 0) dNil) dNil)))) dNil))) (dRet (dMake "Row" sp_Row___init__ [] (dCons (dVar 2) (dCons (dCall sp_taken (dCons (dVar 2) (dCons (dVar 3) (dCons (dVar 4) dNil)))) (dCons (dCall sp_product (dCons (dVar 2) (dCons (dMeth "Row" "bottom" sp_Row_bottom [] (dVar 0) dNil) (dCons (dMeth "Row" "bottom" sp_Row_bottom [] (dVar 1) dNil) dNil)))) dNil)))))))
theorem hd_minus : ∀ (xs : List D) (M : HM) (Q : DK) (E : XDK), sp_minus xs M Q E → xs.length = (["one", "other"] : List Str).length ∧ b_minus (ends Q E) (startD (["one", "other", "prime", "first", "second"] : List Str).length xs) M := by
  rintro xs M Q E ⟨p, T, U, p', T', U', rfl, h1, h2⟩
  refine ⟨rfl, ?_⟩
  simp only [b_minus, dNext, dSeq, dDrop, dRet, dRetN, dIf, dCall, dCB, dCBK, dCons, dNil, dVar, dC, dOp, dB, dTru, dAndT, dOrT, dNotT, dAndV, dOrV, dNotV, dIfE, dChain, dTup, dLst, dSl, dPart, dNoPart, dgName, dgTup, dgCons, dgNil, dgSub, dAsg, dPar, dAug, dNeg, ends, fLt, fLe, fGt, fGe, fSub, fMod, fDiv, fPow, fAdd, fMul, iAddI, iSubI, ii, fInt, fMax2, fMin2, fLen, fTuple, fList, List.length_cons, List.length_nil, List.map_cons, List.map_nil, startD, List.replicate, List.cons_append, List.nil_append, List.append_nil, Nat.zero_add, Nat.reduceAdd, Nat.reduceSub, List.getElem?_cons_succ, List.getElem?_cons_zero, List.set_cons_zero, List.set_cons_succ, wipeD, dFld, dFldSet, dMeth, dMake, dIsO, dFmt, dJs, dStep, dRaise0, iDivI, iModI, iMulI]
  refine ⟨_, _, p, p', rfl, hasP_row, hasP_row, fun h => ⟨M, fun _ _ => rfl, h1 h⟩, fun h => ?_⟩
  obtain ⟨hp, lT, lU, lT', lU', S, S', r, r', q⟩ := h2 h
  subst h
  have hp0 := hp.pos
  have hp5 := hp.le
  refine ⟨_, ob_row, nk_top, _, _, _, rfl, _, ob_row, nk_bottom, _, _, _, rfl, p, T, U', rfl, hp0, by omega, by omega, In.bd r.n.iT (by omega), In.bd r'.n.iB (by omega), ?_⟩
  refine ⟨_, ob_row, nk_top, _, _, _, rfl, _, ob_row, nk_bottom, _, _, _, rfl, p, T', U, rfl, hp0, by omega, by omega, In.bd r'.n.iT (by omega), In.bd r.n.iB (by omega), ?_⟩
  have l1 := len_prod1 (p := p) (a := T) r'.n.ne
  have l2 := len_prod1 (p := p) (a := T') r.n.ne
  have lu := List.length_pos_iff.mpr r.n.ne
  have lu' := List.length_pos_iff.mpr r'.n.ne
  have l3 := len_prod p U U'
  refine ⟨p, prodR p T U', prodR p T' U, rfl, hp0, by omega, by omega, ?_⟩
  refine ⟨_, ob_row, nk_bottom, _, _, _, rfl, _, ob_row, nk_bottom, _, _, _, rfl, p, U, U', rfl, hp0, by omega, by omega, In.bd r.n.iB (by omega), In.bd r'.n.iB (by omega), ?_⟩
  have e : (trim (zipR (max (prodR p T U').length (prodR p T' U).length) fun k => (ati (prodR p T U') k - ati (prodR p T' U) k) % p)) = (trim (zipR (max (prodR p T U').length (prodR p T' U).length) fun k => (ati (prodR p T U') k + (-1) * ati (prodR p T' U) k) % p)) := by
    congr 2
    funext k
    congr 1; omega
  rw [e]
  have lz : (trim (zipR (max (prodR p T U').length (prodR p T' U).length) fun k => (ati (prodR p T U') k + (-1) * ati (prodR p T' U) k) % p)).length ≤ max (prodR p T U').length (prodR p T' U).length := len_zip
  have iz := In.add hp0 (prodR p T U') (prodR p T' U) fun k => ati (prodR p T U') k + (-1) * ati (prodR p T' U) k
  refine mk_rowS hp iz.1 iz.2 (In.prod hp0 U U').1 (In.prod hp0 U U').2 (prod_head hp r.n.iB r'.n.iB r.n.u0 r'.n.u0) (by omega) (by omega) (Ser.lin hp0 r.s r'.s (-1) fun k => by rw [add_at, Int.emod_emod]) fun T3 U3 r3 l4 l5 => .here (q T3 U3 r3 (by omega) (by omega))
def sp_times : DSp := fun xs M Q E => ∃ p T U p' T' U', xs = [rowD p T U, rowD p' T' U'] ∧ (p ≠ p' → E ⟨"Unlike", []⟩ M) ∧ (p = p' → Pr p ∧ T.length ≤ 400 ∧ U.length ≤ 400 ∧ T'.length ≤ 400 ∧ U'.length ≤ 400 ∧ ∃ S S', RSe p S T U ∧ RSe p S' T' U' ∧
  ∀ T3 U3, RSe p (fun n => mulS S S' n % p) T3 U3 → T3.length ≤ T.length + T'.length → U3.length ≤ U.length + U'.length → Q (rowD p T3 U3) M)
def b_times : DTS := (dSeq (dAsg (dCall sp_need_like (dCons (dVar 0) (dCons (dVar 1) dNil))) (dgName 2)) (dSeq (dAsg (dCall sp_product (dCons (dVar 2) (dCons (dMeth "Row" "top" sp_Row_top [] (dVar 0) dNil) (dCons (dMeth "Row" "top" sp_Row_top [] (dVar 1) dNil) dNil)))) (dgName 3)) (dRet (dMake "Row" sp_Row___init__ [] (dCons (dVar 2) (dCons (dVar 3) (dCons (dCall sp_product (dCons (dVar 2) (dCons (dMeth "Row" "bottom" sp_Row_bottom [] (dVar 0) dNil) (dCons (dMeth "Row" "bottom" sp_Row_bottom [] (dVar 1) dNil) dNil)))) dNil)))))))
theorem hd_times : ∀ (xs : List D) (M : HM) (Q : DK) (E : XDK), sp_times xs M Q E → xs.length = (["one", "other"] : List Str).length ∧ b_times (ends Q E) (startD (["one", "other", "prime", "top"] : List Str).length xs) M := by
  rintro xs M Q E ⟨p, T, U, p', T', U', rfl, h1, h2⟩
  refine ⟨rfl, ?_⟩
  simp only [b_times, dNext, dSeq, dDrop, dRet, dRetN, dIf, dCall, dCB, dCBK, dCons, dNil, dVar, dC, dOp, dB, dTru, dAndT, dOrT, dNotT, dAndV, dOrV, dNotV, dIfE, dChain, dTup, dLst, dSl, dPart, dNoPart, dgName, dgTup, dgCons, dgNil, dgSub, dAsg, dPar, dAug, dNeg, ends, fLt, fLe, fGt, fGe, fSub, fMod, fDiv, fPow, fAdd, fMul, iAddI, iSubI, ii, fInt, fMax2, fMin2, fLen, fTuple, fList, List.length_cons, List.length_nil, List.map_cons, List.map_nil, startD, List.replicate, List.cons_append, List.nil_append, List.append_nil, Nat.zero_add, Nat.reduceAdd, Nat.reduceSub, List.getElem?_cons_succ, List.getElem?_cons_zero, List.set_cons_zero, List.set_cons_succ, wipeD, dFld, dFldSet, dMeth, dMake, dIsO, dFmt, dJs, dStep, dRaise0, iDivI, iModI, iMulI]
  refine ⟨_, _, p, p', rfl, hasP_row, hasP_row, fun h => ⟨M, fun _ _ => rfl, h1 h⟩, fun h => ?_⟩
  obtain ⟨hp, lT, lU, lT', lU', S, S', r, r', q⟩ := h2 h
  subst h
  have hp0 := hp.pos
  have hp5 := hp.le
  refine ⟨_, ob_row, nk_top, _, _, _, rfl, _, ob_row, nk_top, _, _, _, rfl, p, T, T', rfl, hp0, by omega, by omega, In.bd r.n.iT (by omega), In.bd r'.n.iT (by omega), ?_⟩
  refine ⟨_, ob_row, nk_bottom, _, _, _, rfl, _, ob_row, nk_bottom, _, _, _, rfl, p, U, U', rfl, hp0, by omega, by omega, In.bd r.n.iB (by omega), In.bd r'.n.iB (by omega), ?_⟩
  have l1 := len_prod p T T'
  have l3 := len_prod p U U'
  refine mk_rowS hp (In.prod hp0 T T').1 (In.prod hp0 T T').2 (In.prod hp0 U U').1 (In.prod hp0 U U').2 (prod_head hp r.n.iB r'.n.iB r.n.u0 r'.n.u0) (by omega) (by omega) (Ser.prod hp0 r.s r'.s) fun T3 U3 r3 l4 l5 => .here (q T3 U3 r3 (by omega) (by omega))
end DL

set_option Elab.async false
set_option linter.all false
set_option maxRecDepth 100000
set_option maxHeartbeats 400000
namespace DL
open PySem PySem.Spec PyProof.Rows L2
open PySem.W (Frag)
variable [TB]
/-! ### pages -/
structure PgOk (p c : Int) (x : Pg) : Prop where
  s0 : 0 < x.1
  s1 : x.1 < p
  r0 : 0 ≤ x.2.1
  r1 : x.2.1 < p
  ie : In p x.2.2
  te : Tr x.2.2
  hd : (ati x.2.2 0 + x.1 * c) % p = 0
/-- the pages of a book -/
structure Bk (p : Int) (l : List Pg) : Prop where
  len : (l.length : Int) = p
  ok : ∀ (c : Nat) x, l[c]? = some x → PgOk p (c : Int) x
def sp_is_page : DSp := fun xs M Q _ => ∃ p c x, xs = [.int p, .int c, pgD x] ∧ Pr p ∧ 0 ≤ c ∧ c < p ∧ PgOk p c x ∧ x.2.2.length ≤ 5000 ∧ Q (.bl true) M
def b_is_page : DTS := (dSeq (dIf (dOrT (dNotT (dTru (dCB fIsi (dCons (dVar 2) (dCons (dC (.ty "tuple")) dNil))))) (dOrT (dB (dOp fNe (dCB fLen (dCons (dVar 2) dNil)) (dC (.int 3)))) (dNotT (dTru (dCall sp_is_finite (dCons (dVar 0) (dCons (dOp fIx (dVar 2) (dC (.int 2))) dNil))))))) (dRet (dC (.bl false))) dNext) (dSeq (dAsg (dVar 2) (dgTup 3 (dgCons (dgName 3) (dgCons (dgName 4) (dgCons (dgName 5) dgNil))))) (dSeq (dIf (dOrT (dNotT (dTru (dCall sp_is_colour (dCons (dVar 0) (dCons (dVar 3) dNil))))) (dOrT (dB (dOp fEq (dVar 3) (dC (.int 0)))) (dNotT (dTru (dCall sp_is_colour (dCons (dVar 0) (dCons (dVar 4) dNil))))))) (dRet (dC (.bl false))) dNext) (dRet (dOp fEq (dOp fMod (dCB fInt (dCons (dOp fAdd (dCall sp_bead_at (dCons (dVar 5) (dCons (dC (.int 0)) dNil))) (dOp fMul (dVar 3) (dVar 1))) dNil)) (dVar 0)) (dC (.int 0)))))))
theorem hd_is_page : ∀ (xs : List D) (M : HM) (Q : DK) (E : XDK), sp_is_page xs M Q E → xs.length = (["prime", "colour", "thing"] : List Str).length ∧ b_is_page (ends Q E) (startD (["prime", "colour", "thing", "own", "further", "addend"] : List Str).length xs) M := by
  rintro xs M Q E ⟨p, c, ⟨s, r, e⟩, rfl, hp, c0, c1, h, le, q⟩
  refine ⟨rfl, ?_⟩
  obtain ⟨s0, s1, r0, r1, ie, te, hd⟩ := h
  dsimp only at s0 s1 r0 r1 ie te hd le
  have hp0 := hp.pos
  simp only [startD, List.map_cons, List.map_nil, List.length_cons, List.length_nil, List.replicate, List.cons_append, List.nil_append, Nat.zero_add, Nat.reduceAdd, Nat.reduceSub]
  simp only [b_is_page, dNext, dSeq, dDrop, dRet, dRetN, dIf, dCall, dCB, dCBK, dCons, dNil, dVar, dC, dOp, dB, dTru, dAndT, dOrT, dNotT, dAndV, dOrV, dNotV, dIfE, dChain, dTup, dLst, dSl, dPart, dNoPart, dgName, dgTup, dgCons, dgNil, dgSub, dAsg, dPar, dAug, dNeg, ends, fLt, fLe, fGt, fGe, fSub, fMod, fDiv, fPow, iAddI, iSubI, ii, fInt, fMax2, fMin2, fLen, fTuple, fList, List.length_cons, List.length_nil, startD, List.replicate, List.cons_append, List.nil_append, List.append_nil, Nat.zero_add, Nat.reduceAdd, Nat.reduceSub, List.getElem?_cons_succ, List.getElem?_cons_zero, List.set_cons_zero, List.set_cons_succ, wipeD, dFld, dFldSet, dMeth, dMake, dIsO, dFmt, dJs, dStep, dRaise0, iDivI, iModI, iMulI, dRaiseX, dMeth2, dIsi2, pgD]
  have dT : isD (.tup [.int s, .int r, tI e]) = true := by
    show (true && (true && (isDs (dI e) && true))) = true
    rw [isDs_dI]; rfl
  refine isi_tup dT ?_
  simp only [tru, isT]
  refine ⟨fun z => (nomatch z), fun _ => ?_⟩
  refine ⟨3, rfl, ne_int ⟨fun z => (no_ne rfl z).elim, fun _ => ?_⟩⟩
  refine ⟨_, rfl, tI e, p, rfl, isDs_dI e, fun ds hd => by cases hd; simpa using Nat.le_trans le (by decide), ?_⟩
  rw [tI_fin ie te]
  refine ⟨fun z => (nomatch z), fun _ => ?_⟩
  refine ⟨_, rfl, rfl, rfl, ?_⟩
  have d1 : dg p (.int s) = true := decide_eq_true ⟨by omega, s1⟩
  have d2 : dg p (.int r) = true := decide_eq_true ⟨r0, r1⟩
  refine ⟨.int s, p, rfl, rfl, ?_⟩
  rw [d1]
  refine ⟨fun z => (nomatch z), fun _ => ?_⟩
  refine eq_int ⟨fun z => ?_, fun _ => ?_⟩
  · have := of_decide_eq_true z; omega
  refine ⟨.int r, p, rfl, rfl, ?_⟩
  rw [d2]
  refine ⟨fun z => (nomatch z), fun _ => ?_⟩
  refine ⟨e, 0, rfl, by decide, ?_⟩
  have := hp.le
  refine ⟨⟨big200 (by omega), big200 (by omega)⟩, fAdd_int ⟨hp0, eq_int ?_⟩⟩
  rw [show (0 : Int).toNat = 0 from rfl, hd]
  exact .here q
def sp_Book___init__ : DSp := fun xs M Q _ => ∃ (a : Addr) (p : Int) (l : List Pg) (y : D), xs = [.ref a, .int p, y] ∧ M a = some (.ins "Book" []) ∧ Pr p ∧ Bk p l ∧ (∀ x ∈ l, x.2.2.length ≤ 5000) ∧ (y = .tup (l.map pgD) ∨ y = .lst (l.map pgD)) ∧ Q .non (mup M a (.ins "Book" (bfl p l)))
def b_Book___init__ : DTS := (dSeq (dIf (dOrT (dNotT (dTru (dCall sp_is_prime (dCons (dVar 1) dNil)))) (dOrT (dNotT (dTru (dIsi2 "list" "tuple" (dVar 2)))) (dB (dOp fNe (dCB fLen (dCons (dVar 2) dNil)) (dVar 1))))) (dRaiseX "NoBook" "colour" (dCons (dC .non) dNil)) dNext) (dSeq (dFor (dIEnum (dCons (dVar 2) dNil)) (dgTup 2 (dgCons (dgName 3) (dgCons (dgName 4) dgNil))) (dIf (dNotT (dTru (dCall sp_is_page (dCons (dVar 1) (dCons (dVar 3) (dCons (dVar 4) dNil)))))) (dRaiseX "NoBook" "colour" (dCons (dVar 3) dNil)) dNext)) (dSeq (dFldSet "Book" "base" (dVar 1) (dVar 0)) (dFldSet "Book" "leaves" (dCB fTuple (dCons (dVar 2) dNil)) (dVar 0)))))
theorem hd_Book___init__ : ∀ (xs : List D) (M : HM) (Q : DK) (E : XDK), sp_Book___init__ xs M Q E → xs.length = (["self", "prime", "pages"] : List Str).length ∧ b_Book___init__ (ends Q E) (startD (["self", "prime", "pages", "colour", "thing"] : List Str).length xs) M := by
  rintro xs M Q E ⟨a, p, l, y, rfl, hM, hp, hb, hl, hy, q⟩
  refine ⟨rfl, ?_⟩
  have hp0 := hp.pos
  have hp5 := hp.le
  have lb := hb.len
  simp only [startD, List.map_cons, List.map_nil, List.length_cons, List.length_nil, List.replicate, List.cons_append, List.nil_append, Nat.zero_add, Nat.reduceAdd, Nat.reduceSub]
  simp only [b_Book___init__, dNext, dSeq, dDrop, dRet, dRetN, dIf, dCall, dCB, dCBK, dCons, dNil, dVar, dC, dOp, dB, dTru, dAndT, dOrT, dNotT, dAndV, dOrV, dNotV, dIfE, dChain, dTup, dLst, dSl, dPart, dNoPart, dgName, dgTup, dgCons, dgNil, dgSub, dAsg, dPar, dAug, dNeg, ends, fLt, fLe, fGt, fGe, fSub, fMod, fDiv, fPow, iAddI, iSubI, ii, fInt, fMax2, fMin2, fLen, fTuple, fList, List.length_cons, List.length_nil, startD, List.replicate, List.cons_append, List.nil_append, List.append_nil, Nat.zero_add, Nat.reduceAdd, Nat.reduceSub, List.getElem?_cons_succ, List.getElem?_cons_zero, List.set_cons_zero, List.set_cons_succ, wipeD, dFld, dFldSet, dMeth, dMake, dIsO, dFmt, dJs, dStep, dRaise0, iDivI, iModI, iMulI, dRaiseX, dMeth2, dIsi2, dFor, dIEnum]
  refine ⟨.int p, rfl, rfl, ?_⟩
  have e1 : isP' (.int p) = true := decide_eq_true hp
  rw [e1]
  simp only [tru]
  refine ⟨fun z => (nomatch z), fun _ => ?_⟩
  obtain ⟨t, ht, ht2⟩ : ∃ t, tyOf M y = some t ∧ (isB t "list" || isB t "tuple") = true := by
    rcases hy with h | h <;> subst h
    · exact ⟨"tuple", rfl, by decide⟩
    · exact ⟨"list", rfl, by decide⟩
  refine ⟨t, ht, ?_⟩
  rw [ht2]
  refine ⟨fun z => (nomatch z), fun _ => ?_⟩
  have hlen : lenOf M y = some (p : Int) := by
    rcases hy with h | h <;> subst h
    · show some (((l.map pgD).length : Nat) : Int) = _
      rw [List.length_map, lb]
    · show some (((l.map pgD).length : Nat) : Int) = _
      rw [List.length_map, lb]
  have hf : frzOf y = some (l.map pgD) := by rcases hy with h | h <;> subst h <;> rfl
  refine ⟨p, hlen, ne_int ⟨fun z => (no_ne rfl z).elim, fun _ => ?_⟩⟩
  refine ⟨_, hf, ?_⟩
  have hat : ∀ {i : Nat} {x : D}, (enD (l.map pgD))[i]? = some x → ∃ g, l[i]? = some g ∧ x = .tup [.int (i : Int), pgD g] := fun {i x} hx => by
    unfold enD at hx
    rw [List.getElem?_map, List.getElem?_zipIdx] at hx
    rw [List.getElem?_map] at hx
    cases e : l[i]? with
    | none => rw [e] at hx; cases hx
    | some g => rw [e] at hx; cases hx; exact ⟨g, rfl, by rw [Nat.zero_add]⟩
  refine forL_inv (fun i σ M' => M' = M ∧ ∃ o3 o4, σ = [some (.ref a), some (.int p), some y, o3, o4]) _ 0 ?_ ?_ ⟨rfl, _, _, rfl⟩
  · rintro i x σ M' hx ⟨rfl, o3, o4, rfl⟩ D' er ex eb hnx hct
    obtain ⟨g, hg, rfl⟩ := hat hx
    have hi := (List.getElem?_eq_some_iff.mp hg).1
    simp only [dNext, dSeq, dDrop, dRet, dRetN, dIf, dCall, dCB, dCBK, dCons, dNil, dVar, dC, dOp, dB, dTru, dAndT, dOrT, dNotT, dAndV, dOrV, dNotV, dIfE, dChain, dTup, dLst, dSl, dPart, dNoPart, dgName, dgTup, dgCons, dgNil, dgSub, dAsg, dPar, dAug, dNeg, ends, fLt, fLe, fGt, fGe, fSub, fMod, fDiv, fPow, iAddI, iSubI, ii, fInt, fMax2, fMin2, fLen, fTuple, fList, List.length_cons, List.length_nil, startD, List.replicate, List.cons_append, List.nil_append, List.append_nil, Nat.zero_add, Nat.reduceAdd, Nat.reduceSub, List.getElem?_cons_succ, List.getElem?_cons_zero, List.set_cons_zero, List.set_cons_succ, wipeD, dFld, dFldSet, dMeth, dMake, dIsO, dFmt, dJs, dStep, dRaise0, iDivI, iModI, iMulI, dRaiseX, dMeth2, dIsi2]
    refine ⟨_, rfl, rfl, rfl, ?_⟩
    refine ⟨p, i, g, rfl, hp, by omega, by omega, hb.ok i g hg, hl g (List.mem_of_getElem? hg), ?_⟩
    refine ⟨fun z => (nomatch z), fun _ => ?_⟩
    exact hnx _ _ ⟨rfl, _, _, rfl⟩
  · rintro σ M' ⟨rfl, o3, o4, rfl⟩
    simp only [dNext, dSeq, dDrop, dRet, dRetN, dIf, dCall, dCB, dCBK, dCons, dNil, dVar, dC, dOp, dB, dTru, dAndT, dOrT, dNotT, dAndV, dOrV, dNotV, dIfE, dChain, dTup, dLst, dSl, dPart, dNoPart, dgName, dgTup, dgCons, dgNil, dgSub, dAsg, dPar, dAug, dNeg, ends, fLt, fLe, fGt, fGe, fSub, fMod, fDiv, fPow, iAddI, iSubI, ii, fInt, fMax2, fMin2, fLen, fTuple, fList, List.length_cons, List.length_nil, startD, List.replicate, List.cons_append, List.nil_append, List.append_nil, Nat.zero_add, Nat.reduceAdd, Nat.reduceSub, List.getElem?_cons_succ, List.getElem?_cons_zero, List.set_cons_zero, List.set_cons_succ, wipeD, dFld, dFldSet, dMeth, dMake, dIsO, dFmt, dJs, dStep, dRaise0, iDivI, iModI, iMulI, dRaiseX, dMeth2, dIsi2]
    refine ⟨a, [], rfl, hM, by decide, ?_⟩
    rw [pfl1]
    have hs : seqOf (mup M' a (.ins "Book" [(("base" : Str), .int p)])) y = some (l.map pgD) := by rcases hy with h | h <;> subst h <;> rfl
    refine ⟨_, hs, a, _, rfl, mup_same, by simp, ?_⟩
    rw [mup_mup, show putFD "leaves" (.tup (l.map pgD)) [(("base" : Str), D.int p)] = bfl p l by simp [putFD, nBL, bfl]]
    exact .here q
theorem mk_book {M1 : HM} {Q : DK} {E : XDK} {p : Int} {l : List Pg} {y : D} (hp : Pr p) (hb : Bk p l) (hl : ∀ x ∈ l, x.2.2.length ≤ 5000) (hy : y = .tup (l.map pgD) ∨ y = .lst (l.map pgD))
    (q : Q (bookD p l) M1) : ∀ a, M1 a = none → sp_Book___init__ [.ref a, .int p, y] (mup M1 a (.ins "Book" [])) (fun v M2 => v = .non ∧ RetK Q (.ref a) M2) E := fun a ha =>
  ⟨a, p, l, y, rfl, mup_same, hp, hb, hl, hy, rfl, by
    rw [mup_mup]
    refine ⟨_, _, .ins mup_same, ?_⟩
    rw [mdel_mup ha]
    exact q⟩
theorem Bk.get {p : Int} {l : List Pg} (hb : Bk p l) {c : Int} (c0 : 0 ≤ c) (c1 : c < p) : ∃ x, l[c.toNat]? = some x ∧ PgOk p c x ∧ x ∈ l := by
  have := hb.len
  have h : c.toNat < l.length := by omega
  refine ⟨l[c.toNat], List.getElem?_eq_getElem h, ?_, List.getElem_mem h⟩
  have := hb.ok c.toNat _ (List.getElem?_eq_getElem h)
  rwa [Int.toNat_of_nonneg c0] at this
theorem atI_pg {l : List Pg} {c : Int} {x : Pg} (c0 : 0 ≤ c) (h : l[c.toNat]? = some x) : atI (l.map pgD) c = some (pgD x) := by
  have hl := (List.getElem?_eq_some_iff.mp h).1
  rw [atI_lt c0 (by rw [List.length_map]; omega), List.getElem?_map, h]; rfl
/-- what a row is taken times by a page -/
def mlt (x : Pg) : List Int := trim [x.1, x.2.1]
def sp_Book_multiplier : DSp := fun xs M Q _ => ∃ p l c x, xs = [bookD p l, .int c] ∧ 0 ≤ c ∧ l[c.toNat]? = some x ∧ Q (tI (mlt x)) M
def b_Book_multiplier : DTS := (dRet (dCall sp_trimmed (dCons (dSl (dOp fIx (dFld "Book" "leaves" (dVar 0)) (dVar 1)) dNoPart (dPart (dC (.int 2)))) dNil)))
theorem hd_Book_multiplier : ∀ (xs : List D) (M : HM) (Q : DK) (E : XDK), sp_Book_multiplier xs M Q E → xs.length = (["self", "colour"] : List Str).length ∧ b_Book_multiplier (ends Q E) (startD (["self", "colour"] : List Str).length xs) M := by
  rintro xs M Q E ⟨p, l, c, x, rfl, c0, hx, q⟩
  refine ⟨rfl, ?_⟩
  simp only [b_Book_multiplier, dNext, dSeq, dDrop, dRet, dRetN, dIf, dCall, dCB, dCBK, dCons, dNil, dVar, dC, dOp, dB, dTru, dAndT, dOrT, dNotT, dAndV, dOrV, dNotV, dIfE, dChain, dTup, dLst, dSl, dPart, dNoPart, dgName, dgTup, dgCons, dgNil, dgSub, dAsg, dPar, dAug, dNeg, ends, fLt, fLe, fGt, fGe, fSub, fMod, fDiv, fPow, fAdd, fMul, iAddI, iSubI, ii, fInt, fMax2, fMin2, fLen, fTuple, fList, List.length_cons, List.length_nil, List.map_cons, List.map_nil, startD, List.replicate, List.cons_append, List.nil_append, List.append_nil, Nat.zero_add, Nat.reduceAdd, Nat.reduceSub, List.getElem?_cons_succ, List.getElem?_cons_zero, List.set_cons_zero, List.set_cons_succ, wipeD, dFld, dFldSet, dMeth, dMake, dIsO, dFmt, dJs, dStep, dRaise0, iDivI, iModI, iMulI, dRaiseX, dMeth2, dIsi2]
  refine ⟨_, _, ob_book, lkb_leaves, pgD x, by rw [ix_tup]; exact atI_pg c0 hx, ?_⟩
  refine fSl_tup (ds := [.int x.1, .int x.2.1, tI x.2.2]) ?_
  exact ⟨_, [x.1, x.2.1], rfl, rfl, .here q⟩
def sp_Book_addend : DSp := fun xs M Q _ => ∃ p l c x, xs = [bookD p l, .int c] ∧ 0 ≤ c ∧ l[c.toNat]? = some x ∧ Q (tI x.2.2) M
def b_Book_addend : DTS := (dRet (dOp fIx (dOp fIx (dFld "Book" "leaves" (dVar 0)) (dVar 1)) (dC (.int 2))))
theorem hd_Book_addend : ∀ (xs : List D) (M : HM) (Q : DK) (E : XDK), sp_Book_addend xs M Q E → xs.length = (["self", "colour"] : List Str).length ∧ b_Book_addend (ends Q E) (startD (["self", "colour"] : List Str).length xs) M := by
  rintro xs M Q E ⟨p, l, c, x, rfl, c0, hx, q⟩
  refine ⟨rfl, ?_⟩
  simp only [b_Book_addend, dNext, dSeq, dDrop, dRet, dRetN, dIf, dCall, dCB, dCBK, dCons, dNil, dVar, dC, dOp, dB, dTru, dAndT, dOrT, dNotT, dAndV, dOrV, dNotV, dIfE, dChain, dTup, dLst, dSl, dPart, dNoPart, dgName, dgTup, dgCons, dgNil, dgSub, dAsg, dPar, dAug, dNeg, ends, fLt, fLe, fGt, fGe, fSub, fMod, fDiv, fPow, fAdd, fMul, iAddI, iSubI, ii, fInt, fMax2, fMin2, fLen, fTuple, fList, List.length_cons, List.length_nil, List.map_cons, List.map_nil, startD, List.replicate, List.cons_append, List.nil_append, List.append_nil, Nat.zero_add, Nat.reduceAdd, Nat.reduceSub, List.getElem?_cons_succ, List.getElem?_cons_zero, List.set_cons_zero, List.set_cons_succ, wipeD, dFld, dFldSet, dMeth, dMake, dIsO, dFmt, dJs, dStep, dRaise0, iDivI, iModI, iMulI, dRaiseX, dMeth2, dIsi2]
  refine ⟨_, _, ob_book, lkb_leaves, pgD x, by rw [ix_tup]; exact atI_pg c0 hx, ?_⟩
  exact ⟨_, rfl, .here q⟩
def sp_Book_pages : DSp := fun xs M Q _ => ∃ p l, xs = [bookD p l] ∧ Q (.lst (l.map pgD)) M
def b_Book_pages : DTS := (dRet (dCB fList (dCons (dFld "Book" "leaves" (dVar 0)) dNil)))
theorem hd_Book_pages : ∀ (xs : List D) (M : HM) (Q : DK) (E : XDK), sp_Book_pages xs M Q E → xs.length = (["self"] : List Str).length ∧ b_Book_pages (ends Q E) (startD (["self"] : List Str).length xs) M := by
  rintro xs M Q E ⟨p, l, rfl, q⟩
  refine ⟨rfl, ?_⟩
  simp only [b_Book_pages, dNext, dSeq, dDrop, dRet, dRetN, dIf, dCall, dCB, dCBK, dCons, dNil, dVar, dC, dOp, dB, dTru, dAndT, dOrT, dNotT, dAndV, dOrV, dNotV, dIfE, dChain, dTup, dLst, dSl, dPart, dNoPart, dgName, dgTup, dgCons, dgNil, dgSub, dAsg, dPar, dAug, dNeg, ends, fLt, fLe, fGt, fGe, fSub, fMod, fDiv, fPow, fAdd, fMul, iAddI, iSubI, ii, fInt, fMax2, fMin2, fLen, fTuple, fList, List.length_cons, List.length_nil, List.map_cons, List.map_nil, startD, List.replicate, List.cons_append, List.nil_append, List.append_nil, Nat.zero_add, Nat.reduceAdd, Nat.reduceSub, List.getElem?_cons_succ, List.getElem?_cons_zero, List.set_cons_zero, List.set_cons_succ, wipeD, dFld, dFldSet, dMeth, dMake, dIsO, dFmt, dJs, dStep, dRaise0, iDivI, iModI, iMulI, dRaiseX, dMeth2, dIsi2]
  exact ⟨_, _, ob_book, lkb_leaves, _, rfl, .here q⟩
theorem knd_ref {M : HM} {a : Addr} {ds : List D} (h : M a = some (.lst ds)) : knd M (.ref a) = "list" := by
  unfold knd; dsimp only; rw [h]
theorem app_ref {M : HM} {a : Addr} {ds : List D} {x : D} {Q : DK} (h : M a = some (.lst ds)) (hl : ds.length < 1000000) (q : Q .non (mup M a (.lst (ds ++ [x])))) : fAppend (.ref a) [x] M Q := ⟨a, ds, mut_ref h, hl, q⟩
def sp__law_pages : DSp := fun xs M Q _ => ∃ (t : Addr) (M0 : HM) (cells : List Int) (s l : Int) (B : Nat) (p cap : Int), xs = [.ref t, .int p, .int cap] ∧ M = mup M0 t (tp cells s l) ∧ TpOk cells s l B ∧ Pr p ∧ 0 < cap ∧ cap ≤ 900 ∧ B + 30000 ≤ 1000000 ∧
  ∀ g s' l', Bk p g → (∀ x ∈ g, (x.2.2.length : Int) ≤ cap) → TpOk cells s' l' (B + (10 * cap.toNat + 30)) → Q (.lst (g.map pgD)) (mup M0 t (tp cells s' l'))
def b__law_pages : DTS := (dSeq (dPar 3 4 (dCons (dLstM dNil) (dCons (dCall sp__law_draw (dCons (dVar 0) (dCons (dC (.int 4)) dNil))) dNil))) (dSeq (dFor (dIRng1 (dCons (dVar 1) dNil)) (dgName 5) (dSeq (dPar 6 7 (dCons (dOp fAdd (dC (.int 1)) (dCall sp__law_draw (dCons (dVar 0) (dCons (dOp fSub (dVar 1) (dC (.int 1))) dNil)))) (dCons (dCall sp__law_draw (dCons (dVar 0) (dCons (dVar 1) dNil))) dNil))) (dSeq (dIf (dB (dOp fEq (dVar 4) (dC (.int 0)))) (dAsg (dC (.int 0)) (dgName 7)) dNext) (dSeq (dAsg (dCall sp__law_cut (dCons (dOp fAdd (dTup (dCons (dOp fMod (dOp fSub (dC (.int 0)) (dOp fMul (dVar 6) (dVar 5))) (dVar 1)) dNil)) (dCall sp__law_beads (dCons (dVar 0) (dCons (dVar 1) (dCons (dCall sp__law_draw (dCons (dVar 0) (dCons (dVar 2) dNil))) dNil))))) dNil)) (dgName 8)) (dDrop (dBM "list" fAppend (dVar 3) (dCons (dTup (dCons (dVar 6) (dCons (dVar 7) (dCons (dVar 8) dNil)))) dNil))))))) (dRet (dVar 3))))
theorem hd__law_pages : ∀ (xs : List D) (M : HM) (Q : DK) (E : XDK), sp__law_pages xs M Q E → xs.length = (["_law_tape", "_law_p", "_law_cap"] : List Str).length ∧ b__law_pages (ends Q E) (startD (["_law_tape", "_law_p", "_law_cap", "_law_found", "_law_kind", "_law_c", "_law_s", "_law_r", "_law_addend"] : List Str).length xs) M := by
  rintro xs M Q E ⟨t, M0, cells, s, l, B, p, cap, rfl, rfl, ok, hp, c0, c1, hB, q⟩
  refine ⟨rfl, ?_⟩
  have hp0 := hp.pos
  have hp5 := hp.le
  simp only [startD, List.map_cons, List.map_nil, List.length_cons, List.length_nil, List.replicate, List.cons_append, List.nil_append, Nat.zero_add, Nat.reduceAdd, Nat.reduceSub]
  simp only [b__law_pages, dNext, dSeq, dDrop, dRet, dRetN, dIf, dCall, dCB, dCBK, dCons, dNil, dVar, dC, dOp, dB, dTru, dAndT, dOrT, dNotT, dAndV, dOrV, dNotV, dIfE, dChain, dTup, dLst, dSl, dPart, dNoPart, dgName, dgTup, dgCons, dgNil, dgSub, dAsg, dPar, dAug, dNeg, ends, fLt, fLe, fGt, fGe, fSub, fMod, fDiv, fPow, iAddI, iSubI, ii, fInt, fMax2, fMin2, fLen, fTuple, fList, List.length_cons, List.length_nil, startD, List.replicate, List.cons_append, List.nil_append, List.append_nil, Nat.zero_add, Nat.reduceAdd, Nat.reduceSub, List.getElem?_cons_succ, List.getElem?_cons_zero, List.set_cons_zero, List.set_cons_succ, wipeD, dFld, dFldSet, dMeth, dMake, dIsO, dFmt, dJs, dStep, dRaise0, iDivI, iModI, iMulI, dRaiseX, dMeth2, dIsi2, dLstM, dFor, dIRng1]
  refine ⟨by decide, fun a ha => ?_⟩
  have hat : t ≠ a := fun z => by rw [← z, mup_same] at ha; cases ha
  have ha0 : M0 a = none := by rwa [mup_ne hat.symm] at ha
  rw [mup_comm hat]
  refine ⟨t, _, cells, s, l, B, 4, rfl, rfl, ok, by omega, by decide, by decide, fun kd s l k0 k1 ok => ⟨⟨by omega, by omega⟩, ?_⟩⟩
  refine forL_inv (fun i σ M' => ∃ g o5 o6 o7 o8 s' l', σ = [some (.ref t), some (.int p), some (.int cap), some (.ref a), some (.int kd), o5, o6, o7, o8] ∧ M' = mup (mup M0 a (.lst (g.map pgD))) t (tp cells s' l') ∧ g.length = i ∧ (∀ (c : Nat) x, g[c]? = some x → PgOk p (c : Int) x) ∧ (∀ x ∈ g, (x.2.2.length : Int) ≤ cap) ∧ TpOk cells s' l' (B + 1 + i * (2 * cap.toNat + 2))) _ 0 ?_ ?_ ⟨[], _, _, _, _, s, l, rfl, rfl, rfl, fun c x h => (by cases h), fun x h => (by cases h), by rw [Nat.zero_mul]; exact ok⟩
  · rintro i x σ M' hx ⟨g, o5, o6, o7, o8, s', l', rfl, rfl, hgl, hg, hgc, ok⟩ D' er ex eb hnx hct
    obtain ⟨hi, rfl⟩ := rng_at hx
    rw [Nat.zero_add] at ok hnx hgl
    have him : i * (2 * cap.toNat + 2) ≤ 5 * (2 * cap.toNat + 2) := Nat.mul_le_mul_right _ (by omega)
    have rest : ∀ sx rx s' l', 0 < sx → sx < p → 0 ≤ rx → rx < p → TpOk cells s' l' (B + 1 + i * (2 * cap.toNat + 2) + 2) → (dSeq (dAsg (dCall sp__law_cut (dCons (dOp fAdd (dTup (dCons (dOp fMod (dOp fSub (dC (.int 0)) (dOp fMul (dVar 6) (dVar 5))) (dVar 1)) dNil)) (dCall sp__law_beads (dCons (dVar 0) (dCons (dVar 1) (dCons (dCall sp__law_draw (dCons (dVar 0) (dCons (dVar 2) dNil))) dNil))))) dNil)) (dgName 8)) (dDrop (dBM "list" fAppend (dVar 3) (dCons (dTup (dCons (dVar 6) (dCons (dVar 7) (dCons (dVar 8) dNil)))) dNil)))) D' [some (.ref t), some (.int p), some (.int cap), some (.ref a), some (.int kd), some (.int (0 + (i : Int))), some (.int sx), some (.int rx), o8] (mup (mup M0 a (.lst (g.map pgD))) t (tp cells s' l')) := fun sx rx s' l' s0 s1 r0 r1 ok => by
      simp only [dNext, dSeq, dDrop, dRet, dRetN, dIf, dCall, dCB, dCBK, dCons, dNil, dVar, dC, dOp, dB, dTru, dAndT, dOrT, dNotT, dAndV, dOrV, dNotV, dIfE, dChain, dTup, dLst, dSl, dPart, dNoPart, dgName, dgTup, dgCons, dgNil, dgSub, dAsg, dPar, dAug, dNeg, ends, fLt, fLe, fGt, fGe, fSub, fMod, fDiv, fPow, iAddI, iSubI, ii, fInt, fMax2, fMin2, fLen, fTuple, fList, List.length_cons, List.length_nil, startD, List.replicate, List.cons_append, List.nil_append, List.append_nil, Nat.zero_add, Nat.reduceAdd, Nat.reduceSub, List.getElem?_cons_succ, List.getElem?_cons_zero, List.set_cons_zero, List.set_cons_succ, wipeD, dFld, dFldSet, dMeth, dMake, dIsO, dFmt, dJs, dStep, dRaise0, iDivI, iModI, iMulI, dRaiseX, dMeth2, dIsi2, dBM]
      refine ⟨⟨big200 (by omega), big200 (by omega)⟩, hp0, by decide, ?_⟩
      refine ⟨t, _, cells, s', l', _, cap, rfl, rfl, ok, by omega, c0, by have : (900 : Int) ≤ 10 ^ 100 := (by decide +kernel); omega, fun m s' l' m0 m1 ok => ?_⟩
      refine ⟨t, _, cells, s', l', _, p, m, rfl, rfl, ok, hp0, by omega, m0, by omega, by omega, fun bs s' l' lbs ibs ok => ?_⟩
      refine fAdd_tup (ys := dI bs) (by simp; omega) ?_
      generalize hh : (0 - sx * (0 + (i : Int))) % p = h0
      refine ⟨tI (h0 :: bs), h0 :: bs, rfl, .inl rfl, by simp; omega, ?_⟩
      refine ⟨knd_ref (by rw [mup_ne hat.symm, mup_same]), by decide, app_ref (by rw [mup_ne hat.symm, mup_same]) (by simp; omega) ?_⟩
      rw [← mup_comm hat, mup_mup, mup_comm hat]
      have h00 : 0 ≤ h0 := by rw [← hh]; exact Int.emod_nonneg _ (by omega)
      have h01 : h0 < p := by rw [← hh]; exact Int.emod_lt_of_pos _ hp0
      have ipg : PgOk p (i : Int) (sx, rx, trim (h0 :: bs)) := by
        refine ⟨s0, s1, r0, r1, In.trim fun x hx => ?_, trim_trim _, ?_⟩
        · rcases List.mem_cons.mp hx with h | h
          · subst h; exact ⟨h00, h01⟩
          · exact ibs x h
        · show (ati (trim (h0 :: bs)) 0 + sx * (i : Int)) % p = 0
          rw [ati_trim, show ati (h0 :: bs) 0 = h0 from rfl, ← hh, Int.zero_add, Int.add_emod, Int.emod_emod, ← Int.add_emod]
          rw [show 0 - sx * (i : Int) + sx * (i : Int) = 0 by omega]
          exact Int.zero_emod p
      refine hnx _ _ ⟨g ++ [(sx, rx, trim (h0 :: bs))], _, _, _, _, s', l', rfl, by rw [List.map_append]; rfl, by rw [List.length_append, hgl]; rfl, fun c x hc => ?_, fun x hx => ?_, ok.mono ?_⟩
      · rw [List.getElem?_append] at hc
        split at hc
        · exact hg c x hc
        · rename_i hcl
          have hc0 := (List.getElem?_eq_some_iff.mp hc).1
          rw [List.length_singleton] at hc0
          have ec : c = i := by omega
          rw [ec, hgl, Nat.sub_self] at hc
          cases hc
          rw [ec]; exact ipg
      · rcases List.mem_append.mp hx with h | h
        · exact hgc x h
        · rw [List.mem_singleton.mp h]
          have := trim_len (h0 :: bs)
          rw [List.length_cons] at this
          show (((trim (h0 :: bs)).length : Nat) : Int) ≤ cap
          omega
      · rw [Nat.add_mul, Nat.one_mul]
        generalize i * (2 * cap.toNat + 2) = z
        omega
    simp only [dNext, dSeq, dDrop, dRet, dRetN, dIf, dCall, dCB, dCBK, dCons, dNil, dVar, dC, dOp, dB, dTru, dAndT, dOrT, dNotT, dAndV, dOrV, dNotV, dIfE, dChain, dTup, dLst, dSl, dPart, dNoPart, dgName, dgTup, dgCons, dgNil, dgSub, dAsg, dPar, dAug, dNeg, ends, fLt, fLe, fGt, fGe, fSub, fMod, fDiv, fPow, iAddI, iSubI, ii, fInt, fMax2, fMin2, fLen, fTuple, fList, List.length_cons, List.length_nil, startD, List.replicate, List.cons_append, List.nil_append, List.append_nil, Nat.zero_add, Nat.reduceAdd, Nat.reduceSub, List.getElem?_cons_succ, List.getElem?_cons_zero, List.set_cons_zero, List.set_cons_succ, wipeD, dFld, dFldSet, dMeth, dMake, dIsO, dFmt, dJs, dStep, dRaise0, iDivI, iModI, iMulI, dRaiseX, dMeth2, dIsi2, dBM] at rest ⊢
    refine ⟨t, _, cells, s', l', _, p - 1, rfl, rfl, ok, by omega, by rcases hp with h | h | h <;> omega, by have : (5 : Int) ≤ 10 ^ 100 := (by decide +kernel); omega, fun sx s' l' s0 s1 ok => fAdd_int ?_⟩
    refine ⟨t, _, cells, s', l', _, p, rfl, rfl, ok, by omega, hp0, by have : (5 : Int) ≤ 10 ^ 100 := (by decide +kernel); omega, fun rx s' l' r0 r1 ok => eq_int ⟨fun _ => ?_, fun _ => ?_⟩⟩
    · exact rest _ 0 s' l' (by omega) (by omega) (by omega) hp0 (ok.mono (by omega))
    · exact rest _ rx s' l' (by omega) (by omega) r0 r1 (ok.mono (by omega))
  · rintro σ M' ⟨g, o5, o6, o7, o8, s', l', rfl, rfl, hgl, hg, hgc, ok⟩
    simp only [dNext, dSeq, dDrop, dRet, dRetN, dIf, dCall, dCB, dCBK, dCons, dNil, dVar, dC, dOp, dB, dTru, dAndT, dOrT, dNotT, dAndV, dOrV, dNotV, dIfE, dChain, dTup, dLst, dSl, dPart, dNoPart, dgName, dgTup, dgCons, dgNil, dgSub, dAsg, dPar, dAug, dNeg, ends, fLt, fLe, fGt, fGe, fSub, fMod, fDiv, fPow, iAddI, iSubI, ii, fInt, fMax2, fMin2, fLen, fTuple, fList, List.length_cons, List.length_nil, startD, List.replicate, List.cons_append, List.nil_append, List.append_nil, Nat.zero_add, Nat.reduceAdd, Nat.reduceSub, List.getElem?_cons_succ, List.getElem?_cons_zero, List.set_cons_zero, List.set_cons_succ, wipeD, dFld, dFldSet, dMeth, dMake, dIsO, dFmt, dJs, dStep, dRaise0, iDivI, iModI, iMulI, dRaiseX, dMeth2, dIsi2]
    rw [rgD_length, Nat.zero_add] at hgl ok
    refine ⟨_, _, .lst (by rw [mup_ne hat.symm, mup_same]), ?_⟩
    rw [← mup_comm hat, mdel_mup (by rw [mup_ne hat.symm]; exact ha0)]
    refine q g s' l' ⟨by omega, hg⟩ hgc (ok.mono ?_)
    have hm : p.toNat * (2 * cap.toNat + 2) ≤ 5 * (2 * cap.toNat + 2) := Nat.mul_le_mul_right _ (by omega)
    omega
end DL

set_option Elab.async false
set_option linter.all false
set_option maxRecDepth 100000
set_option maxHeartbeats 400000
namespace DL
open PySem PySem.Spec PyProof.Rows L2
open PySem.W (Frag)
variable [TB]
/-! ### undone -/
theorem row_one {p : Int} {T : List Int} (hp : Pr p) (i : In p T) (t : Tr T) : RowN p T [1] := ⟨i, t, (one11 hp).1.1, rfl, rfl, .right _ _⟩
theorem RSe.eqC {p : Int} {S S' : Nat → Int} {T U T' U' : List Int} (hp : Pr p) (h : RSe p S T U) (h' : RSe p S' T' U') (e : Cg p S S') : T = T' ∧ U = U' := h.eq hp h' fun n => by
  have := e n
  rwa [Int.emod_eq_of_lt (h.s.bd n).1 (h.s.bd n).2, Int.emod_eq_of_lt (h'.s.bd n).1 (h'.s.bd n).2] at this
/-- the first bead is the top's -/
theorem RSe.zero {p : Int} {S : Nat → Int} {T U : List Int} (hp : Pr p) (h : RSe p S T U) : S 0 = ati T 0 := by
  have h1 := h.s.eq 0
  have h2 : mulS (ati U) S 0 = S 0 := by
    show 0 + ati U 0 * S (0 - 0) = _
    rw [h.n.b0, Int.one_mul, Int.zero_add]
  rw [h2] at h1
  have h3 := h.n.iT.at hp.pos 0
  rwa [Int.emod_eq_of_lt (h.s.bd 0).1 (h.s.bd 0).2, Int.emod_eq_of_lt h3.1 h3.2] at h1
theorem inv_uniq {p : Int} {S S1 S2 : Nat → Int} (h1 : Cg p (mulS S S1) (ati [1])) (h2 : Cg p (mulS S S2) (ati [1])) : Cg p S1 S2 := by
  have a1 : Cg p (mulS (mulS S S2) S1) S1 := (h2.mul (.refl S1)).trans (.fn fun n => mulS_one _ n)
  have a2 : Cg p (mulS (mulS S S1) S2) S2 := (h1.mul (.refl S2)).trans (.fn fun n => mulS_one _ n)
  refine a1.symm.trans (Cg.trans ?_ a2)
  exact (Cg.assoc _ _ _).trans (((Cg.refl S).mul (.comm _ _)).trans (Cg.assoc _ _ _).symm)
theorem inv_head {p : Int} {S S' : Nat → Int} (hp : Pr p) (h : Cg p (mulS S S') (ati [1])) : S 0 ≠ 0 := by
  intro z
  have e := h 0
  have e0 : mulS S S' 0 = 0 := by
    show 0 + S 0 * S' (0 - 0) = 0
    rw [z, Int.zero_mul]; rfl
  rw [e0, Int.zero_emod, show ati [1] 0 = 1 from rfl, one_mod hp] at e
  cases e
def sp_undone : DSp := fun xs M Q E => ∃ p T U S, xs = [rowD p T U] ∧ Pr p ∧ RSe p S T U ∧ T.length ≤ 5000 ∧ U.length ≤ 5000 ∧ (ati T 0 = 0 → E ⟨"NoPart", []⟩ M) ∧ (ati T 0 ≠ 0 → ∀ S' T' U', RSe p S' T' U' → T'.length ≤ U.length → U'.length ≤ T.length → Cg p (mulS S S') (ati [1]) → Q (rowD p T' U') M)
def b_undone : DTS := (dSeq (dIf (dB (dOp fEq (dCall sp_bead_at (dCons (dMeth "Row" "top" sp_Row_top [] (dVar 0) dNil) (dCons (dC (.int 0)) dNil))) (dC (.int 0)))) (dRaise0 "NoPart") dNext) (dRet (dMake "Row" sp_Row___init__ [] (dCons (dMeth "Row" "prime" sp_Row_prime [] (dVar 0) dNil) (dCons (dMeth "Row" "bottom" sp_Row_bottom [] (dVar 0) dNil) (dCons (dMeth "Row" "top" sp_Row_top [] (dVar 0) dNil) dNil))))))
theorem hd_undone : ∀ (xs : List D) (M : HM) (Q : DK) (E : XDK), sp_undone xs M Q E → xs.length = (["row"] : List Str).length ∧ b_undone (ends Q E) (startD (["row"] : List Str).length xs) M := by
  rintro xs M Q E ⟨p, T, U, S, rfl, hp, r, lT, lU, h1, h2⟩
  refine ⟨rfl, ?_⟩
  simp only [b_undone, dNext, dSeq, dDrop, dRet, dRetN, dIf, dCall, dCB, dCBK, dCons, dNil, dVar, dC, dOp, dB, dTru, dAndT, dOrT, dNotT, dAndV, dOrV, dNotV, dIfE, dChain, dTup, dLst, dSl, dPart, dNoPart, dgName, dgTup, dgCons, dgNil, dgSub, dAsg, dPar, dAug, dNeg, ends, fLt, fLe, fGt, fGe, fSub, fMod, fDiv, fPow, fAdd, fMul, iAddI, iSubI, ii, fInt, fMax2, fMin2, fLen, fTuple, fList, List.length_cons, List.length_nil, List.map_cons, List.map_nil, startD, List.replicate, List.cons_append, List.nil_append, List.append_nil, Nat.zero_add, Nat.reduceAdd, Nat.reduceSub, List.getElem?_cons_succ, List.getElem?_cons_zero, List.set_cons_zero, List.set_cons_succ, wipeD, dFld, dFldSet, dMeth, dMake, dIsO, dFmt, dJs, dStep, dRaise0, iDivI, iModI, iMulI]
  refine ⟨_, ob_row, nk_top, _, _, _, rfl, T, 0, rfl, by decide, eq_int ⟨fun h => ⟨M, fun _ _ => rfl, h1 (of_decide_eq_true h)⟩, fun h => ?_⟩⟩
  have hT : ati T 0 ≠ 0 := of_decide_eq_false h
  refine ⟨_, ob_row, nk_prime, _, _, _, rfl, _, ob_row, nk_bottom, _, _, _, rfl, _, ob_row, nk_top, _, _, _, rfl, ?_⟩
  obtain ⟨S', hS'⟩ := ser_ex (a := U) hp r.n.iT hT
  refine mk_rowS hp r.n.iB r.n.tB r.n.iT r.n.tT hT lU lT hS' fun T' U' r' l1 l2 => .here (h2 hT S' T' U' r' l1 l2 ?_)
  have hi := r.n.iB.at hp.pos 0
  obtain ⟨i, _, _, hi⟩ := inv_of hp hi.1 hi.2 r.n.u0
  refine Cg.ucancel (b := ati U) hi ?_
  refine (Cg.assoc _ _ _).symm.trans ((r.s.eq.mul (.refl _)).trans (hS'.eq.trans ?_))
  exact (Cg.trans (.comm _ _) (.fn fun n => mulS_one _ n)).symm
end DL

set_option Elab.async false
set_option linter.all false
set_option maxRecDepth 100000
set_option maxHeartbeats 400000
namespace DL
open PySem PySem.Spec PyProof.Rows L2
open PySem.W (Frag)
variable [TB]
/-! ### shifted -/
def ShN (w : Nat) (f : Nat → Int) (n : Nat) : Int := if n < w then 0 else f (n - w)
theorem ShN_zero (f : Nat → Int) (n : Nat) : ShN 0 f n = f n := by unfold ShN; rw [if_neg (Nat.not_lt_zero n), Nat.sub_zero]
theorem ShN_succ (w : Nat) (f : Nat → Int) (n : Nat) : ShN (w + 1) f n = Xs (ShN w f) n := by
  cases n with
  | zero => rfl
  | succ n =>
    show (if n + 1 < w + 1 then 0 else f (n + 1 - (w + 1))) = (if n < w then 0 else f (n - w))
    by_cases h : n < w
    · rw [if_pos (by omega), if_pos h]
    · rw [if_neg (by omega), if_neg h, show n + 1 - (w + 1) = n - w by omega]
theorem ShN_fn {w : Nat} {f g : Nat → Int} (h : ∀ n, f n = g n) (n : Nat) : ShN w f n = ShN w g n := by unfold ShN; rw [h]
theorem mulS_ShN (f g : Nat → Int) : ∀ w n, mulS f (ShN w g) n = ShN w (mulS f g) n
  | 0, n => by
    rw [ShN_zero]
    exact sm_congr fun i _ => by rw [ShN_zero]
  | w + 1, n => by
    have e : ShN (w + 1) g = Xs (ShN w g) := funext (ShN_succ w g)
    rw [e, Xs_mul, ShN_succ]
    unfold Xs
    split
    · rfl
    · exact mulS_ShN f g w _
theorem ati_ShN (a : List Int) (k n : Nat) : ati (List.replicate k 0 ++ a) n = ShN k (ati a) n := by
  rw [ati_sh]
  unfold sh ShN
  by_cases h : k ≤ n
  · rw [if_pos h, if_neg (by omega)]
  · rw [if_neg h, if_pos (by omega)]
theorem Cg.ShN {p : Int} {f g : Nat → Int} (w : Nat) (h : Cg p f g) : Cg p (ShN w f) (ShN w g) := fun n => by
  unfold DL.ShN
  split
  · rfl
  · exact h _
theorem Ser.shift {p : Int} {a b : List Int} {S : Nat → Int} (h : Ser p a b S) (hp : 0 < p) (k : Nat) : Ser p (List.replicate k 0 ++ a) b (ShN k S) := by
  refine ⟨fun n => ?_, fun n => ?_⟩
  · unfold ShN
    split
    · exact ⟨Int.le_refl _, hp⟩
    · exact h.bd _
  · rw [mulS_ShN, ati_ShN]
    exact h.eq.ShN k n
theorem Tr.rep {a : List Int} (t : Tr a) (hn : a ≠ []) (k : Nat) : Tr (List.replicate k 0 ++ a) := by
  have hl := t.last hn
  have h0 := List.length_pos_iff.mpr hn
  have := take_trim (ns := List.replicate k 0 ++ a) (m := (List.replicate k 0 ++ a).length) (Nat.le_refl _) (fun k hk => ati_ge hk) (.inr (by
    rw [ati_app, List.length_replicate, List.length_append, List.length_replicate, if_neg (by omega), show k + a.length - 1 - k = a.length - 1 by omega]
    exact hl))
  rw [List.take_length] at this
  exact this.symm
theorem In.rep {p : Int} {a : List Int} (hp : 0 < p) (i : In p a) (k : Nat) : In p (List.replicate k 0 ++ a) := fun x hx => by
  rcases List.mem_append.mp hx with h | h
  · rw [(List.mem_replicate.mp h).2]; exact ⟨Int.le_refl _, hp⟩
  · exact i x h
def sp_shifted : DSp := fun xs M Q _ => ∃ p T U S many, xs = [rowD p T U, .int many] ∧ Pr p ∧ RSe p S T U ∧ T.length ≤ 2000 ∧ U.length ≤ 2000 ∧ 0 ≤ many ∧ many ≤ 2000 ∧ ∀ T' U', RSe p (ShN many.toNat S) T' U' → T'.length ≤ many.toNat + T.length → U'.length ≤ U.length → Q (rowD p T' U') M
def b_shifted : DTS := (dSeq (dAsg (dIfE (dB (dOp fNe (dMeth "Row" "top" sp_Row_top [] (dVar 0) dNil) (dTup dNil))) (dOp fAdd (dOp fMul (dTup (dCons (dC (.int 0)) dNil)) (dVar 1)) (dMeth "Row" "top" sp_Row_top [] (dVar 0) dNil)) (dTup dNil)) (dgName 2)) (dRet (dMake "Row" sp_Row___init__ [] (dCons (dMeth "Row" "prime" sp_Row_prime [] (dVar 0) dNil) (dCons (dVar 2) (dCons (dMeth "Row" "bottom" sp_Row_bottom [] (dVar 0) dNil) dNil))))))
theorem hd_shifted : ∀ (xs : List D) (M : HM) (Q : DK) (E : XDK), sp_shifted xs M Q E → xs.length = (["row", "many"] : List Str).length ∧ b_shifted (ends Q E) (startD (["row", "many", "top"] : List Str).length xs) M := by
  rintro xs M Q E ⟨p, T, U, S, many, rfl, hp, r, lT, lU, m0, m1, q⟩
  refine ⟨rfl, ?_⟩
  have hp0 := hp.pos
  simp only [startD, List.map_cons, List.map_nil, List.length_cons, List.length_nil, List.replicate, List.cons_append, List.nil_append, Nat.zero_add, Nat.reduceAdd, Nat.reduceSub]
  simp only [b_shifted, dNext, dSeq, dDrop, dRet, dRetN, dIf, dCall, dCB, dCBK, dCons, dNil, dVar, dC, dOp, dB, dTru, dAndT, dOrT, dNotT, dAndV, dOrV, dNotV, dIfE, dChain, dTup, dLst, dSl, dPart, dNoPart, dgName, dgTup, dgCons, dgNil, dgSub, dAsg, dPar, dAug, dNeg, ends, fLt, fLe, fGt, fGe, fSub, fMod, fDiv, fPow, iAddI, iSubI, ii, fInt, fMax2, fMin2, fLen, fTuple, fList, List.length_cons, List.length_nil, startD, List.replicate, List.cons_append, List.nil_append, List.append_nil, Nat.zero_add, Nat.reduceAdd, Nat.reduceSub, List.getElem?_cons_succ, List.getElem?_cons_zero, List.set_cons_zero, List.set_cons_succ, wipeD, dFld, dFldSet, dMeth, dMake, dIsO, dFmt, dJs, dStep, dRaise0, iDivI, iModI, iMulI, dRaiseX, dMeth2, dIsi2]
  refine ⟨_, ob_row, nk_top, _, _, _, rfl, by decide, ne_tI (b := []) ⟨fun h => ?_, fun h => ?_⟩⟩
  · have hn : T ≠ [] := by simpa using h
    have eM : ((1 : Nat) * many.toNat) ≤ 1000000 := by omega
    refine ⟨by decide, ⟨⟨by omega, by omega, by simpa using eM⟩, ?_⟩⟩
    have e : repD many [D.int 0] = dI (List.replicate many.toNat 0) := by
      have := rep_zero many.toNat
      rwa [Int.toNat_of_nonneg m0] at this
    rw [e]
    refine ⟨_, ob_row, nk_top, _, _, _, rfl, fAdd_tup (by simp; omega) ?_⟩
    have e2 : dI (List.replicate many.toNat 0) ++ dI T = dI (List.replicate many.toNat 0 ++ T) := by simp [dI]
    rw [e2]
    refine ⟨_, ob_row, nk_prime, _, _, _, rfl, _, ob_row, nk_bottom, _, _, _, rfl, ?_⟩
    refine mk_rowS hp (r.n.iT.rep hp0 _) (r.n.tT.rep hn _) r.n.iB r.n.tB r.n.u0 (by simp; omega) (by omega) (r.s.shift hp0 _) fun T' U' r' l1 l2 => .here (q T' U' r' (by simpa using l1) l2)
  · have hn : T = [] := by simpa using h
    subst hn
    refine ⟨by decide, _, ob_row, nk_prime, _, _, _, rfl, _, ob_row, nk_bottom, _, _, _, rfl, ?_⟩
    have z : ∀ n, S n = 0 := fun n => by
      have sz : Ser p [] U (fun _ => 0) := ⟨fun _ => ⟨Int.le_refl _, hp0⟩, fun n => by rw [ati_nil]; congr 1; exact sm_zero fun i _ => Int.mul_zero _⟩
      exact r.s.uniq hp r.n.iB r.n.u0 sz n
    have zs : ∀ n, S n = ShN many.toNat S n := fun n => by
      unfold ShN
      split
      · exact z n
      · rw [z, z]
    refine mk_rowS (A := []) hp (fun _ z => nomatch z) rfl r.n.iB r.n.tB r.n.u0 (by decide) (by omega) (r.s.fn zs) fun T' U' r' l1 l2 => .here (q T' U' r' (Nat.le_trans l1 (Nat.zero_le _)) l2)
end DL

set_option Elab.async false
set_option linter.all false
set_option maxRecDepth 100000
set_option maxHeartbeats 400000
namespace DL
open PySem PySem.Spec PyProof.Rows L2
open PySem.W (Frag)
variable [TB]
/-! ### dropped: one by one -/
theorem mulS_next (f g : Nat → Int) (n : Nat) : mulS f (fun k => g (k + 1)) n = mulS f g (n + 1) - f (n + 1) * g 0 := by
  have e : mulS f g (n + 1) = sm (fun i => f i * g (n + 1 - i)) (n + 1) + f (n + 1) * g (n + 1 - (n + 1)) := rfl
  rw [e, Nat.sub_self]
  have e2 : mulS f (fun k => g (k + 1)) n = sm (fun i => f i * g (n + 1 - i)) (n + 1) := sm_congr fun i hi => by
    show f i * g (n - i + 1) = _
    rw [show n - i + 1 = n + 1 - i by omega]
  rw [e2]; omega
theorem Ser.head {p : Int} {a b : List Int} {S : Nat → Int} (hp : 0 < p) (h : Ser p a b S) (ia : In p a) (b0 : ati b 0 = 1) : S 0 = ati a 0 := by
  have h1 := h.eq 0
  have h2 : mulS (ati b) S 0 = S 0 := by
    show 0 + ati b 0 * S (0 - 0) = _
    rw [b0, Int.one_mul, Int.zero_add]
  rw [h2] at h1
  have h3 := ia.at hp 0
  rwa [Int.emod_eq_of_lt (h.bd 0).1 (h.bd 0).2, Int.emod_eq_of_lt h3.1 h3.2] at h1
theorem Tr.drop {a : List Int} (t : Tr a) (k : Nat) : Tr (a.drop k) := by
  by_cases h : k < a.length
  · have hn : a ≠ [] := fun z => by rw [z] at h; exact absurd h (Nat.not_lt_zero _)
    have hl := t.last hn
    have := take_trim (ns := a.drop k) (m := (a.drop k).length) (Nat.le_refl _) (fun k hk => ati_ge hk) (.inr (by
      rw [ati_drop, List.length_drop, show k + (a.length - k - 1) = a.length - 1 by omega]
      exact hl))
    rw [List.take_length] at this
    exact this.symm
  · rw [List.drop_of_length_le (by omega)]; exact rfl
def sp_one_dropped : DSp := fun xs M Q _ => ∃ (p : Int) (t b : List Int), xs = [.int p, tI t, tI b] ∧ Pr p ∧ In p t ∧ In p b ∧ ati b 0 = 1 ∧ t.length ≤ 5000 ∧ b.length ≤ 5000 ∧ ∀ t', In p t' → Tr t' → t'.length ≤ max t.length b.length - 1 → (∀ S, Ser p t b S → Ser p t' b (fun n => S (n + 1))) → Q (tI t') M
theorem sub_at {p : Int} {a b : List Int} (k : Nat) : ati (trim (zipR (max a.length b.length) fun k => (ati a k - ati b k) % p)) k = (ati a k - ati b k) % p := by
  have h := sum_at (p := p) (a := a) (b := b) (c := -1) k
  have e : (fun n => (ati a n + -1 * ati b n) % p) = fun n => (ati a n - ati b n) % p := by
    funext n
    congr 1; omega
  rw [e] at h
  rw [h]; congr 1; omega
def b_one_dropped : DTS := (dRet (dSl (dCall sp_taken (dCons (dVar 0) (dCons (dVar 1) (dCons (dCall sp_scaled (dCons (dVar 0) (dCons (dVar 2) (dCons (dCall sp_bead_at (dCons (dVar 1) (dCons (dC (.int 0)) dNil))) dNil)))) dNil)))) (dPart (dC (.int 1))) dNoPart))
theorem hd_one_dropped : ∀ (xs : List D) (M : HM) (Q : DK) (E : XDK), sp_one_dropped xs M Q E → xs.length = (["prime", "top", "bottom"] : List Str).length ∧ b_one_dropped (ends Q E) (startD (["prime", "top", "bottom"] : List Str).length xs) M := by
  rintro xs M Q E ⟨p, t, b, rfl, hp, it, ib, b0, lt, lb, q⟩
  refine ⟨rfl, ?_⟩
  have hp0 := hp.pos
  have hp5 := hp.le
  have h0 := it.at hp0 0
  simp only [b_one_dropped, dNext, dSeq, dDrop, dRet, dRetN, dIf, dCall, dCB, dCBK, dCons, dNil, dVar, dC, dOp, dB, dTru, dAndT, dOrT, dNotT, dAndV, dOrV, dNotV, dIfE, dChain, dTup, dLst, dSl, dPart, dNoPart, dgName, dgTup, dgCons, dgNil, dgSub, dAsg, dPar, dAug, dNeg, ends, fLt, fLe, fGt, fGe, fSub, fMod, fDiv, fPow, fAdd, fMul, iAddI, iSubI, ii, fInt, fMax2, fMin2, fLen, fTuple, fList, List.length_cons, List.length_nil, List.map_cons, List.map_nil, startD, List.replicate, List.cons_append, List.nil_append, List.append_nil, Nat.zero_add, Nat.reduceAdd, Nat.reduceSub, List.getElem?_cons_succ, List.getElem?_cons_zero, List.set_cons_zero, List.set_cons_succ, wipeD, dFld, dFldSet, dMeth, dMake, dIsO, dFmt, dJs, dStep, dRaise0, iDivI, iModI, iMulI]
  refine ⟨t, 0, rfl, by decide, p, ati t 0, b, rfl, hp0, by omega, In.bd ib (by omega), by omega, ?_⟩
  have lc : (trim (b.map fun x => x * ati t 0 % p)).length ≤ b.length := Nat.le_trans (trim_len _) (by simp)
  refine ⟨p, t, _, rfl, hp0, by omega, by omega, fSl_tup ?_⟩
  generalize hz : trim (zipR (max t.length (trim (b.map fun x => x * ati t 0 % p)).length) fun k => (ati t k - ati (trim (b.map fun x => x * ati t 0 % p)) k) % p) = z
  have at_ : ∀ k, ati z k = (ati t k - ati b k * ati t 0 % p) % p := fun k => by
    rw [← hz, sub_at, ati_trim (b.map _), ati_map (f := fun x => x * ati t 0 % p) (by show 0 * ati t 0 % p = 0; rw [Int.zero_mul, Int.zero_emod])]
  have iz : In p z := by rw [← hz]; exact (In.zip hp0).trim
  have tz : Tr z := by rw [← hz]; exact trim_trim _
  have lz : z.length ≤ max t.length b.length := by
    have h1 : z.length ≤ max t.length (trim (b.map fun x => x * ati t 0 % p)).length := by rw [← hz]; exact len_zip
    omega
  have ec : cutG (dI z) (some 1) none = dI (z.drop 1) := by
    unfold cutG HT.sIx
    simp only [if_neg (show ¬ (1 : Int) < 0 by decide)]
    rw [List.take_of_length_le (by rw [List.length_drop]; exact Nat.le_refl _)]
    by_cases h : z = []
    · subst h; rfl
    · have := List.length_pos_iff.mpr h
      rw [Nat.min_eq_left (by simp; omega), dI_drop]; rfl
  rw [ec]
  refine .here (q _ (iz.drop 1) (tz.drop 1) (by rw [List.length_drop]; omega) fun S hS => ⟨fun n => hS.bd _, fun n => ?_⟩)
  rw [mulS_next, ati_drop, at_, hS.head hp0 it b0, Nat.add_comm 1 n, Int.emod_emod, Int.sub_emod, hS.eq (n + 1), ← Int.sub_emod, Int.sub_emod, ← Int.emod_emod (ati b (n + 1) * ati t 0), ← Int.sub_emod, Int.emod_emod]
/-! ### round a bottom -/
def Mb (p : Int) (b : List Int) (f g : Nat → Int) : Prop := ∃ t, Fs t ∧ Cg p f (fun n => g n + mulS (ati b) t n)
theorem Mb.of {p : Int} {b : List Int} {f g : Nat → Int} (h : Cg p f g) : Mb p b f g := ⟨ati [], .ati _, fun n => by
  show f n % p = (g n + mulS (ati b) (ati []) n) % p
  rw [mulS_comm, mulS_nil, Int.add_zero]; exact h n⟩
theorem Mb.trans {p : Int} {b : List Int} {f g h : Nat → Int} (x : Mb p b f g) (y : Mb p b g h) : Mb p b f h := by
  obtain ⟨t, ft, e⟩ := x
  obtain ⟨u, fu, e2⟩ := y
  refine ⟨fun i => u i + t i, fu.add ft, e.trans ((Cg.add e2 (.refl _)).trans (.fn fun n => ?_))⟩
  show h n + mulS (ati b) u n + mulS (ati b) t n = _
  rw [mulS_add]; omega
theorem Mb.mul {p : Int} {b : List Int} {f g k : Nat → Int} (x : Mb p b f g) (fk : Fs k) : Mb p b (mulS k f) (mulS k g) := by
  obtain ⟨t, ft, e⟩ := x
  refine ⟨mulS k t, fk.mul ft, ((Cg.refl k).mul e).trans ?_⟩
  refine Cg.trans (.fn fun n => mulS_add k g (mulS (ati b) t) n) (Cg.add (.refl _) (Cg.swap _ _ _))
theorem ShN_add (w : Nat) (f g : Nat → Int) (n : Nat) : ShN w (fun i => f i + g i) n = ShN w f n + ShN w g n := by
  unfold ShN
  split
  · rfl
  · rfl
theorem Fs.sh {f : Nat → Int} (w : Nat) : Fs f → Fs (ShN w f) := fun ⟨N, h⟩ => ⟨N + w, fun n hn => by
  unfold ShN
  rw [if_neg (by omega)]; exact h _ (by omega)⟩
theorem Mb.sh {p : Int} {b : List Int} {f g : Nat → Int} (w : Nat) (x : Mb p b f g) : Mb p b (ShN w f) (ShN w g) := by
  obtain ⟨t, ft, e⟩ := x
  refine ⟨ShN w t, ft.sh w, (e.ShN w).trans (.fn fun n => ?_)⟩
  rw [ShN_add, ← mulS_ShN]
theorem ShN_ShN (k w : Nat) (f : Nat → Int) (n : Nat) : ShN (k + w) f n = ShN k (ShN w f) n := by
  unfold ShN
  by_cases h : n < k
  · rw [if_pos h, if_pos (by omega)]
  · rw [if_neg h]
    by_cases h2 : n - k < w
    · rw [if_pos h2, if_pos (by omega)]
    · rw [if_neg h2, if_neg (by omega), show n - (k + w) = n - k - w by omega]
def sp_product_within : DSp := fun xs M Q _ => ∃ (p : Int) (x y b : List Int), xs = [.int p, tI x, tI y, tI b] ∧ Pr p ∧ In p x ∧ In p y ∧ In p b ∧ Tr b ∧ b ≠ [] ∧ x.length ≤ 1000 ∧ y.length ≤ 1000 ∧ b.length ≤ 1000 ∧ ∀ r, In p r → Tr r → r.length < b.length → Mb p b (mulS (ati x) (ati y)) (ati r) → Q (tI r) M
def b_product_within : DTS := (dRet (dOp fIx (dCall sp_parted (dCons (dVar 0) (dCons (dCall sp_product (dCons (dVar 0) (dCons (dVar 1) (dCons (dVar 2) dNil)))) (dCons (dVar 3) dNil)))) (dC (.int 1))))
theorem hd_product_within : ∀ (xs : List D) (M : HM) (Q : DK) (E : XDK), sp_product_within xs M Q E → xs.length = (["prime", "one", "other", "bottom"] : List Str).length ∧ b_product_within (ends Q E) (startD (["prime", "one", "other", "bottom"] : List Str).length xs) M := by
  rintro xs M Q E ⟨p, x, y, b, rfl, hp, ix, iy, ib, tb, hb, lx, ly, lb, q⟩
  refine ⟨rfl, ?_⟩
  have hp0 := hp.pos
  have hp5 := hp.le
  have l1 := len_prod p x y
  simp only [b_product_within, dNext, dSeq, dDrop, dRet, dRetN, dIf, dCall, dCB, dCBK, dCons, dNil, dVar, dC, dOp, dB, dTru, dAndT, dOrT, dNotT, dAndV, dOrV, dNotV, dIfE, dChain, dTup, dLst, dSl, dPart, dNoPart, dgName, dgTup, dgCons, dgNil, dgSub, dAsg, dPar, dAug, dNeg, ends, fLt, fLe, fGt, fGe, fSub, fMod, fDiv, fPow, fAdd, fMul, iAddI, iSubI, ii, fInt, fMax2, fMin2, fLen, fTuple, fList, List.length_cons, List.length_nil, List.map_cons, List.map_nil, startD, List.replicate, List.cons_append, List.nil_append, List.append_nil, Nat.zero_add, Nat.reduceAdd, Nat.reduceSub, List.getElem?_cons_succ, List.getElem?_cons_zero, List.set_cons_zero, List.set_cons_succ, wipeD, dFld, dFldSet, dMeth, dMake, dIsO, dFmt, dJs, dStep, dRaise0, iDivI, iModI, iMulI]
  refine ⟨p, x, y, rfl, hp0, lx, ly, In.bd ix (by omega), In.bd iy (by omega), p, prodR p x y, b, rfl, .inr ⟨hp, (In.prod hp0 x y).1, ib, hb, tb, by omega, by omega, fun t r d => ⟨_, rfl, .here (q r d.ir d.tr d.lt ⟨ati t, .ati t, ?_⟩)⟩⟩⟩
  refine (prod_cg p x y).symm.trans (d.cg.symm.trans (.fn fun n => Int.add_comm _ _))
/-- what is dropped so far: both within the bottom -/
theorem Ser.far {p : Int} {t t' b : List Int} {S : Nat → Int} {m : Nat} (hp : Pr p) (ib : In p b) (tb : Tr b) (b0 : ati b 0 = 1) (lt : t.length < b.length) (lt' : t'.length < b.length) (hS : Ser p t b S) (h : Mb p b (ShN m (ati t')) (ati t)) : Ser p t' b (fun n => S (n + m)) := by
  have hp0 := hp.pos
  have hb : ati b 0 ≠ 0 := by rw [b0]; decide
  have hbn := ne_of0 b0 (by decide)
  obtain ⟨S', hS'⟩ := ser_ex (a := t') hp ib hb
  obtain ⟨q, fq, e⟩ := h
  obtain ⟨i, _, _, hi⟩ := inv_of hp (ib.at hp0 0).1 (ib.at hp0 0).2 hb
  have e1 : Cg p (ShN m S') (fun n => S n + q n) := by
    refine Cg.ucancel (b := ati b) hi ?_
    refine Cg.trans (.fn fun n => mulS_ShN _ _ _ _) ((hS'.eq.ShN m).trans (e.trans ?_))
    exact (Cg.add hS.eq.symm (.refl _)).trans (.fn fun n => (mulS_add (ati b) S q n).symm)
  have q0 : ∀ n, m ≤ n → q n % p = 0 := by
    obtain ⟨l, hl⟩ := fq.list
    have hle : (redP p l).length ≤ m := by
      apply Nat.le_of_not_lt
      intro hlt
      have hn : redP p l ≠ [] := fun z => by rw [z] at hlt; exact absurd hlt (Nat.not_lt_zero _)
      have h1 := prod_top hp ib (red_in hp0 l) tb (red_tr l) hbn hn
      have hb1 := List.length_pos_iff.mpr hbn
      apply h1
      rw [cv_mulS]
      have h2 : mulS (ati b) (ati (redP p l)) (b.length + (redP p l).length - 2) % p = mulS (ati b) q (b.length + (redP p l).length - 2) % p := ((Cg.refl (ati b)).mul ((red_cg (p := p) l).trans (.fn hl))) _
      rw [h2]
      have h3 := e (b.length + (redP p l).length - 2)
      have h4 : ShN m (ati t') (b.length + (redP p l).length - 2) = 0 := by
        unfold ShN
        rw [if_neg (by omega), ati_ge (by omega)]
      dsimp only at h3
      rw [h4, ati_ge (show t.length ≤ b.length + (redP p l).length - 2 by omega), Int.zero_add, Int.zero_emod] at h3
      exact h3.symm
    intro n hn
    rw [← hl, ← red_cg (p := p) l n, ati_ge (by omega), Int.zero_emod]
  have e2 : ∀ n, S' n = S (n + m) := fun n => by
    have h1 := e1 (n + m)
    have h2 : ShN m S' (n + m) = S' n := by
      unfold ShN
      rw [if_neg (by omega), Nat.add_sub_cancel]
    rw [h2] at h1
    dsimp only at h1
    rw [Int.add_emod, q0 (n + m) (by omega), Int.add_zero, Int.emod_emod, Int.emod_eq_of_lt (hS'.bd n).1 (hS'.bd n).2, Int.emod_eq_of_lt (hS.bd _).1 (hS.bd _).2] at h1
    exact h1
  exact hS'.fn e2
end DL

set_option Elab.async false
set_option linter.all false
set_option maxRecDepth 100000
set_option maxHeartbeats 400000
namespace DL
open PySem PySem.Spec PyProof.Rows L2
open PySem.W (Frag)
variable [TB]
theorem Mb.symm {p : Int} {b : List Int} {f g : Nat → Int} (x : Mb p b f g) : Mb p b g f := by
  obtain ⟨t, ft, e⟩ := x
  refine ⟨fun n => (-1) * t n, ft.scal (-1), ?_⟩
  refine Cg.trans (g := fun n => (g n + mulS (ati b) t n) + (-1) * mulS (ati b) t n) (.fn fun n => by omega) ?_
  refine (Cg.add e.symm (.refl _)).trans (.fn fun n => ?_)
  show f n + -1 * mulS (ati b) t n = f n + mulS (ati b) (fun n => -1 * t n) n
  rw [mulS_scal]
/-- one more step: x to the w times the product is as far as the one -/
theorem Mb.step {p : Int} {b t2 s2 r : List Int} {w : Nat} (mr : Mb p b (mulS (ati t2) (ati s2)) (ati r)) (ms : Mb p b (ShN w (ati s2)) (ati [1])) : Mb p b (ShN w (ati r)) (ati t2) :=
  (mr.symm.sh w).trans ((Mb.of (.fn fun n => (mulS_ShN (ati t2) (ati s2) w n).symm)).trans ((Mb.mul ms (.ati t2)).trans (.of (Cg.trans (.comm _ _) (.fn fun n => mulS_one _ n)))))
def sp_top_dropped : DSp := fun xs M Q _ => ∃ (p m : Int) (t b : List Int), xs = [.int p, tI t, tI b, .int m] ∧ Pr p ∧ In p t ∧ Tr t ∧ In p b ∧ Tr b ∧ ati b 0 = 1 ∧ t.length ≤ 4000 ∧ b.length ≤ 400 ∧ 0 ≤ m ∧ ∀ t', In p t' → Tr t' → t'.length ≤ max t.length b.length → (∀ S, Ser p t b S → Ser p t' b (fun n => S (n + m.toNat))) → Q (tI t') M
def b_top_dropped : DTS := (dSeq (dWhile (dAndT (dB (dOp fGt (dVar 3) (dC (.int 0)))) (dB (dOp fGe (dCB fLen (dCons (dVar 1) dNil)) (dCB fLen (dCons (dVar 2) dNil))))) (dSeq (dAsg (dCall sp_one_dropped (dCons (dVar 0) (dCons (dVar 1) (dCons (dVar 2) dNil)))) (dgName 1)) (dAug 3 (dC (.int 1)) iSubI))) (dSeq (dAsg (dCall sp_taken (dCons (dVar 0) (dCons (dTup dNil) (dCons (dSl (dVar 2) (dPart (dC (.int 1))) dNoPart) dNil)))) (dgName 4)) (dSeq (dWhile (dAndT (dB (dOp fGt (dVar 3) (dC (.int 0)))) (dB (dOp fNe (dVar 1) (dTup dNil)))) (dSeq (dIf (dB (dOp fEq (dOp fAnd (dVar 3) (dC (.int 1))) (dC (.int 1)))) (dAsg (dCall sp_product_within (dCons (dVar 0) (dCons (dVar 1) (dCons (dVar 4) (dCons (dVar 2) dNil))))) (dgName 1)) dNext) (dSeq (dAsg (dCall sp_product_within (dCons (dVar 0) (dCons (dVar 4) (dCons (dVar 4) (dCons (dVar 2) dNil))))) (dgName 4)) (dAug 3 (dC (.int 2)) iDivI)))) (dRet (dVar 1)))))
theorem hd_top_dropped : ∀ (xs : List D) (M : HM) (Q : DK) (E : XDK), sp_top_dropped xs M Q E → xs.length = (["prime", "top", "bottom", "many"] : List Str).length ∧ b_top_dropped (ends Q E) (startD (["prime", "top", "bottom", "many", "step"] : List Str).length xs) M := by
  rintro xs M Q E ⟨p, m, t, b, rfl, hp, it, tt, ib, tb, b0, lt, lb, m0, q⟩
  refine ⟨rfl, ?_⟩
  have hp0 := hp.pos
  have hp5 := hp.le
  have hbn := ne_of0 b0 (by decide)
  have lb0 := List.length_pos_iff.mpr hbn
  simp only [b_top_dropped, dNext, dSeq, dDrop, dRet, dRetN, dIf, dCall, dCB, dCBK, dCons, dNil, dVar, dC, dOp, dB, dTru, dAndT, dOrT, dNotT, dAndV, dOrV, dNotV, dIfE, dChain, dTup, dLst, dSl, dPart, dNoPart, dgName, dgTup, dgCons, dgNil, dgSub, dAsg, dPar, dAug, dNeg, ends, fLt, fLe, fGt, fGe, fSub, fMod, fDiv, fPow, fAdd, fMul, iAddI, iSubI, ii, fInt, fMax2, fMin2, fLen, fTuple, fList, List.length_cons, List.length_nil, List.map_cons, List.map_nil, startD, List.replicate, List.cons_append, List.nil_append, List.append_nil, Nat.zero_add, Nat.reduceAdd, Nat.reduceSub, List.getElem?_cons_succ, List.getElem?_cons_zero, List.set_cons_zero, List.set_cons_succ, wipeD, dFld, dFldSet, dMeth, dMake, dIsO, dFmt, dJs, dStep, dRaise0, iDivI, iModI, iMulI, dWhile]
  -- one by one
  refine ⟨fun k σ M' => M' = M ∧ ∃ t1, σ = [some (.int p), some (tI t1), some (tI b), some (.int (k : Int)), none] ∧ k ≤ m.toNat ∧ In p t1 ∧ Tr t1 ∧ t1.length ≤ max t.length b.length ∧ (∀ S, Ser p t b S → Ser p t1 b (fun n => S (n + (m.toNat - k)))), ⟨m.toNat, rfl, t, by rw [Int.toNat_of_nonneg m0], Nat.le_refl _, it, tt, by omega, fun S hS => hS.fn fun n => by rw [Nat.sub_self]; rfl⟩, ?_⟩
  rintro k σ M' ⟨rfl, t1, rfl, hk, i1, tt1, l1, hser⟩
  simp only [dNext, dSeq, dDrop, dRet, dRetN, dIf, dCall, dCB, dCBK, dCons, dNil, dVar, dC, dOp, dB, dTru, dAndT, dOrT, dNotT, dAndV, dOrV, dNotV, dIfE, dChain, dTup, dLst, dSl, dPart, dNoPart, dgName, dgTup, dgCons, dgNil, dgSub, dAsg, dPar, dAug, dNeg, ends, fLt, fLe, fGt, fGe, fSub, fMod, fDiv, fPow, fAdd, fMul, iAddI, iSubI, ii, fInt, fMax2, fMin2, fLen, fTuple, fList, List.length_cons, List.length_nil, List.map_cons, List.map_nil, startD, List.replicate, List.cons_append, List.nil_append, List.append_nil, Nat.zero_add, Nat.reduceAdd, Nat.reduceSub, List.getElem?_cons_succ, List.getElem?_cons_zero, List.set_cons_zero, List.set_cons_succ, wipeD, dFld, dFldSet, dMeth, dMake, dIsO, dFmt, dJs, dStep, dRaise0, iDivI, iModI, iMulI]
  -- then by halves
  have second : ∀ (hend : k = 0 ∨ t1.length < b.length), sp_taken [.int p, tI [], .tup (dI (b.drop 1))] M' (fun x M1 => (dSeq (dWhile (dAndT (dB (dOp fGt (dVar 3) (dC (.int 0)))) (dB (dOp fNe (dVar 1) (dTup dNil)))) (dSeq (dIf (dB (dOp fEq (dOp fAnd (dVar 3) (dC (.int 1))) (dC (.int 1)))) (dAsg (dCall sp_product_within (dCons (dVar 0) (dCons (dVar 1) (dCons (dVar 4) (dCons (dVar 2) dNil))))) (dgName 1)) dNext) (dSeq (dAsg (dCall sp_product_within (dCons (dVar 0) (dCons (dVar 4) (dCons (dVar 4) (dCons (dVar 2) dNil))))) (dgName 4)) (dAug 3 (dC (.int 2)) iDivI)))) (dRet (dVar 1))) (ends Q E) [some (.int p), some (tI t1), some (tI b), some (.int (k : Int)), some x] M1) (RetX E · [some (.int p), some (tI t1), some (tI b), some (.int (k : Int)), none] ·) := fun hend => by
    refine ⟨p, [], b.drop 1, rfl, hp0, by decide, by rw [List.length_drop]; omega, ?_⟩
    generalize hz : trim (zipR (max ([] : List Int).length (b.drop 1).length) fun k => (ati [] k - ati (b.drop 1) k) % p) = s0
    have at_ : ∀ k, ati s0 k = (0 - ati b (k + 1)) % p := fun k => by
      rw [← hz, sub_at, ati_nil, ati_drop, Nat.add_comm]
    have is0 : In p s0 := by rw [← hz]; exact (In.zip hp0).trim
    have ts0 : Tr s0 := by rw [← hz]; exact trim_trim _
    have ls0 : s0.length ≤ b.length - 1 := by
      rw [← hz]
      refine Nat.le_trans len_zip ?_
      rw [List.length_drop, List.length_nil]; omega
    -- x times the step is one round the bottom
    have ms0 : Mb p b (ShN 1 (ati s0)) (ati [1]) := by
      refine ⟨fun n => (-1) * ati [1] n, (Fs.ati [1]).scal (-1), fun n => ?_⟩
      show ShN 1 (ati s0) n % p = (ati [1] n + mulS (ati b) (fun n => (-1) * ati [1] n) n) % p
      rw [mulS_scal, mulS_comm, mulS_one]
      unfold ShN
      cases n with
      | zero => rw [if_pos (by decide), b0]; rfl
      | succ n =>
        rw [if_neg (by omega), Nat.add_sub_cancel, at_, Int.emod_emod, ati_ge (show ([1] : List Int).length ≤ n + 1 by simp)]
        congr 1; omega
    simp only [dNext, dSeq, dDrop, dRet, dRetN, dIf, dCall, dCB, dCBK, dCons, dNil, dVar, dC, dOp, dB, dTru, dAndT, dOrT, dNotT, dAndV, dOrV, dNotV, dIfE, dChain, dTup, dLst, dSl, dPart, dNoPart, dgName, dgTup, dgCons, dgNil, dgSub, dAsg, dPar, dAug, dNeg, ends, fLt, fLe, fGt, fGe, fSub, fMod, fDiv, fPow, fAdd, fMul, iAddI, iSubI, ii, fInt, fMax2, fMin2, fLen, fTuple, fList, List.length_cons, List.length_nil, List.map_cons, List.map_nil, startD, List.replicate, List.cons_append, List.nil_append, List.append_nil, Nat.zero_add, Nat.reduceAdd, Nat.reduceSub, List.getElem?_cons_succ, List.getElem?_cons_zero, List.set_cons_zero, List.set_cons_succ, wipeD, dFld, dFldSet, dMeth, dMake, dIsO, dFmt, dJs, dStep, dRaise0, iDivI, iModI, iMulI, dWhile]
    refine ⟨fun k' σ M'' => M'' = M' ∧ ∃ t2 s2 w j, σ = [some (.int p), some (tI t2), some (tI b), some (.int (k' : Int)), some (tI s2)] ∧ In p t2 ∧ Tr t2 ∧ In p s2 ∧ s2.length < b.length ∧ t2.length ≤ max t.length b.length ∧ 0 < w ∧ Mb p b (ShN w (ati s2)) (ati [1]) ∧ Mb p b (ShN j (ati t2)) (ati t1) ∧ j + k' * w = k ∧ (k = 0 → t2 = t1) ∧ (k ≠ 0 → t2.length < b.length),
      ⟨k, rfl, t1, s0, 1, 0, rfl, i1, tt1, is0, by omega, l1, by decide, ms0, .of (.fn fun n => ShN_zero _ n), by omega, fun _ => rfl, fun h => by omega⟩, ?_⟩
    rintro k' σ M'' ⟨rfl, t2, s2, w, j, rfl, i2, tt2, is2, ls2, l2, w0, ms, mt, hw, hz0, hz1⟩
    simp only [dNext, dSeq, dDrop, dRet, dRetN, dIf, dCall, dCB, dCBK, dCons, dNil, dVar, dC, dOp, dB, dTru, dAndT, dOrT, dNotT, dAndV, dOrV, dNotV, dIfE, dChain, dTup, dLst, dSl, dPart, dNoPart, dgName, dgTup, dgCons, dgNil, dgSub, dAsg, dPar, dAug, dNeg, ends, fLt, fLe, fGt, fGe, fSub, fMod, fDiv, fPow, fAdd, fMul, iAddI, iSubI, ii, fInt, fMax2, fMin2, fLen, fTuple, fList, List.length_cons, List.length_nil, List.map_cons, List.map_nil, startD, List.replicate, List.cons_append, List.nil_append, List.append_nil, Nat.zero_add, Nat.reduceAdd, Nat.reduceSub, List.getElem?_cons_succ, List.getElem?_cons_zero, List.set_cons_zero, List.set_cons_succ, wipeD, dFld, dFldSet, dMeth, dMake, dIsO, dFmt, dJs, dStep, dRaise0, iDivI, iModI, iMulI]
    have fin : (k' = 0 ∨ t2 = []) → Q (tI t2) M'' := fun h => by
      refine q t2 i2 tt2 l2 fun S hS => ?_
      have h1 := hser S hS
      by_cases hk0 : k = 0
      · have e := hz0 hk0
        subst e
        refine h1.fn fun n => ?_
        rw [hk0, Nat.sub_zero]
      · have hlt : t1.length < b.length := by omega
        have mm : Mb p b (ShN k (ati t2)) (ati t1) := by
          rcases h with h | h
          · have : j = k := by rw [h] at hw; omega
            rw [← this]; exact mt
          · subst h
            have z : ∀ w n, ShN w (ati []) n = ati [] n := fun w n => by
              unfold ShN
              split
              · exact ati_nil.symm
              · rw [ati_nil, ati_nil]
            exact (Mb.of (.fn fun n => (z k n).trans (z j n).symm)).trans mt
        have h2 := Ser.far hp ib tb b0 hlt (hz1 hk0) h1 mm
        refine h2.fn fun n => ?_
        show S (n + k + (m.toNat - k)) = _
        rw [show n + k + (m.toNat - k) = n + m.toNat by omega]
    refine ⟨fun h => ?_, fun h => ?_⟩
    · have hk' : 0 < k' := by have := of_decide_eq_true h; omega
      have hk0 : k ≠ 0 := fun z => by
        have : 1 * w ≤ k' * w := Nat.mul_le_mul_right w hk'
        omega
      have hl2 := hz1 hk0
      refine ⟨by decide, ne_tI (b := []) ⟨fun h => ?_, fun h => .here (fin (.inr (by simpa using h)))⟩⟩
      have hand : Builtin.bitAnd (k' : Int) 1 = ((k' % 2 : Nat) : Int) := by
        rw [PyProof.Rows.bitAnd_m1]; omega
      simp only [fAnd, ii]
      rw [hand]
      have hkw : k' * w = (k' / 2) * (2 * w) + (k' % 2) * w := by
        have h := Nat.div_add_mod k' 2
        have h2 : k' * w = (2 * (k' / 2) + k' % 2) * w := by rw [h]
        rw [h2, Nat.add_mul, Nat.mul_comm 2 (k' / 2), Nat.mul_assoc]
      have stepS : ∀ (E' : XDK) t3 j3, In p t3 → Tr t3 → t3.length < b.length → Mb p b (ShN j3 (ati t3)) (ati t1) → j3 + (k' / 2) * (2 * w) = k → sp_product_within [.int p, tI s2, tI s2, tI b] M'' (fun x M1 => ((0 : Int) < 2 ∧ (2 : Int) < 1073741824) ∧ ∃ m', m' < k' ∧ M1 = M'' ∧ ∃ t2 s2' w j, [some (.int p), some (tI t3), some (tI b), some (.int ((k' : Int) / 2)), some x] = [some (.int p), some (tI t2), some (tI b), some (.int (m' : Int)), some (tI s2')] ∧ In p t2 ∧ Tr t2 ∧ In p s2' ∧ s2'.length < b.length ∧ t2.length ≤ max t.length b.length ∧ 0 < w ∧ Mb p b (ShN w (ati s2')) (ati [1]) ∧ Mb p b (ShN j (ati t2)) (ati t1) ∧ j + m' * w = k ∧ (k = 0 → t2 = t1) ∧ (k ≠ 0 → t2.length < b.length)) E' := fun E' t3 j3 i3 tt3 l3 m3 h3 => by
        refine ⟨p, s2, s2, b, rfl, hp, is2, is2, ib, tb, hbn, by omega, by omega, by omega, fun r ir tr lr mr => ⟨by decide, k' / 2, Nat.div_lt_self hk' (by decide), rfl, t3, r, 2 * w, j3, ?_, i3, tt3, ir, lr, by omega, by omega, ?_, m3, h3, fun z => absurd z hk0, fun _ => l3⟩⟩
        · have e : (k' : Int) / 2 = ((k' / 2 : Nat) : Int) := by omega
          rw [e]
        · -- twice as far
          have h1 := (mr.step ms).sh w
          refine (Mb.of (.fn fun n => ?_)).trans (h1.trans ms)
          rw [show 2 * w = w + w by omega, ShN_ShN]
      refine eq_int ⟨fun h => ?_, fun h => ?_⟩
      · have hodd : k' % 2 = 1 := by have := of_decide_eq_true h; omega
        refine ⟨p, t2, s2, b, rfl, hp, i2, is2, ib, tb, hbn, by omega, by omega, by omega, fun r ir tr lr mr => ?_⟩
        refine stepS _ r (j + w) ir tr lr ((Mb.of (.fn fun n => ShN_ShN j w _ n)).trans (((mr.step ms).sh j).trans mt)) ?_
        rw [hodd, Nat.one_mul] at hkw
        omega
      · have heven : k' % 2 = 0 := by have := of_decide_eq_false h; omega
        refine stepS _ t2 j i2 tt2 hl2 mt ?_
        rw [heven, Nat.zero_mul, Nat.add_zero] at hkw
        omega
    · exact ⟨fun z => (nomatch z), fun _ => .here (fin (.inl (by have := of_decide_eq_false h; omega)))⟩
  have cut1 : cutG (dI b) (some 1) none = dI (b.drop 1) := by
    rw [cutG_from (by decide) (by simp; omega), dI_drop]; rfl
  have go : (k = 0 ∨ t1.length < b.length) → fSl (tI b) (some 1) none M' fun x M1 => sp_taken [.int p, tI [], x] M1 (fun x M1 => (dSeq (dWhile (dAndT (dB (dOp fGt (dVar 3) (dC (.int 0)))) (dB (dOp fNe (dVar 1) (dTup dNil)))) (dSeq (dIf (dB (dOp fEq (dOp fAnd (dVar 3) (dC (.int 1))) (dC (.int 1)))) (dAsg (dCall sp_product_within (dCons (dVar 0) (dCons (dVar 1) (dCons (dVar 4) (dCons (dVar 2) dNil))))) (dgName 1)) dNext) (dSeq (dAsg (dCall sp_product_within (dCons (dVar 0) (dCons (dVar 4) (dCons (dVar 4) (dCons (dVar 2) dNil))))) (dgName 4)) (dAug 3 (dC (.int 2)) iDivI)))) (dRet (dVar 1))) (ends Q E) [some (.int p), some (tI t1), some (tI b), some (.int (k : Int)), some x] M1) (fun x M1 => RetX E x [some (.int p), some (tI t1), some (tI b), some (.int (k : Int)), none] M1) := fun h => by
    refine fSl_tup ?_
    rw [cut1]
    exact second h
  simp only [dNext, dSeq, dDrop, dRet, dRetN, dIf, dCall, dCB, dCBK, dCons, dNil, dVar, dC, dOp, dB, dTru, dAndT, dOrT, dNotT, dAndV, dOrV, dNotV, dIfE, dChain, dTup, dLst, dSl, dPart, dNoPart, dgName, dgTup, dgCons, dgNil, dgSub, dAsg, dPar, dAug, dNeg, ends, fLt, fLe, fGt, fGe, fSub, fMod, fDiv, fPow, fAdd, fMul, iAddI, iSubI, ii, fInt, fMax2, fMin2, fLen, fTuple, fList, List.length_cons, List.length_nil, List.map_cons, List.map_nil, startD, List.replicate, List.cons_append, List.nil_append, List.append_nil, Nat.zero_add, Nat.reduceAdd, Nat.reduceSub, List.getElem?_cons_succ, List.getElem?_cons_zero, List.set_cons_zero, List.set_cons_succ, wipeD, dFld, dFldSet, dMeth, dMake, dIsO, dFmt, dJs, dStep, dRaise0, iDivI, iModI, iMulI, dWhile] at go
  refine ⟨fun h => ⟨_, rfl, _, rfl, fun h2 => ?_, fun h2 => ⟨by decide, go (.inr ?_)⟩⟩, fun h => ⟨fun z => (nomatch z), fun _ => ⟨by decide, go (.inl ?_)⟩⟩⟩
  · have hk0 : 0 < k := by have := of_decide_eq_true h; omega
    refine ⟨p, t1, b, rfl, hp, i1, ib, b0, by omega, by omega, fun t' it' tt' l' hs => ⟨k - 1, by omega, rfl, t', ?_, by omega, it', tt', by omega, fun S hS => ((hs _ (hser S hS)).fn fun n => ?_)⟩⟩
    · have e : (k : Int) - 1 = ((k - 1 : Nat) : Int) := by omega
      rw [e]
    · show S (n + 1 + (m.toNat - k)) = S (n + (m.toNat - (k - 1)))
      rw [show n + 1 + (m.toNat - k) = n + (m.toNat - (k - 1)) by omega]
  · have := of_decide_eq_false h2
    simp at this
    omega
  · have := of_decide_eq_false h
    omega
def sp_dropped : DSp := fun xs M Q _ => ∃ p T U S m, xs = [rowD p T U, .int m] ∧ Pr p ∧ RSe p S T U ∧ T.length ≤ 4000 ∧ U.length ≤ 400 ∧ 0 ≤ m ∧ ∀ T' U', RSe p (fun n => S (n + m.toNat)) T' U' → T'.length ≤ max T.length U.length → U'.length ≤ U.length → Q (rowD p T' U') M
def b_dropped : DTS := (dSeq (dPar 2 3 (dCons (dMeth "Row" "prime" sp_Row_prime [] (dVar 0) dNil) (dCons (dMeth "Row" "bottom" sp_Row_bottom [] (dVar 0) dNil) dNil))) (dRet (dMake "Row" sp_Row___init__ [] (dCons (dVar 2) (dCons (dCall sp_top_dropped (dCons (dVar 2) (dCons (dMeth "Row" "top" sp_Row_top [] (dVar 0) dNil) (dCons (dVar 3) (dCons (dVar 1) dNil))))) (dCons (dVar 3) dNil))))))
theorem hd_dropped : ∀ (xs : List D) (M : HM) (Q : DK) (E : XDK), sp_dropped xs M Q E → xs.length = (["row", "many"] : List Str).length ∧ b_dropped (ends Q E) (startD (["row", "many", "prime", "bottom"] : List Str).length xs) M := by
  rintro xs M Q E ⟨p, T, U, S, m, rfl, hp, r, lT, lU, m0, q⟩
  refine ⟨rfl, ?_⟩
  simp only [b_dropped, dNext, dSeq, dDrop, dRet, dRetN, dIf, dCall, dCB, dCBK, dCons, dNil, dVar, dC, dOp, dB, dTru, dAndT, dOrT, dNotT, dAndV, dOrV, dNotV, dIfE, dChain, dTup, dLst, dSl, dPart, dNoPart, dgName, dgTup, dgCons, dgNil, dgSub, dAsg, dPar, dAug, dNeg, ends, fLt, fLe, fGt, fGe, fSub, fMod, fDiv, fPow, fAdd, fMul, iAddI, iSubI, ii, fInt, fMax2, fMin2, fLen, fTuple, fList, List.length_cons, List.length_nil, List.map_cons, List.map_nil, startD, List.replicate, List.cons_append, List.nil_append, List.append_nil, Nat.zero_add, Nat.reduceAdd, Nat.reduceSub, List.getElem?_cons_succ, List.getElem?_cons_zero, List.set_cons_zero, List.set_cons_succ, wipeD, dFld, dFldSet, dMeth, dMake, dIsO, dFmt, dJs, dStep, dRaise0, iDivI, iModI, iMulI]
  refine ⟨_, ob_row, nk_prime, _, _, _, rfl, _, ob_row, nk_bottom, _, _, _, rfl, _, ob_row, nk_top, _, _, _, rfl, ?_⟩
  refine ⟨p, m, T, U, rfl, hp, r.n.iT, r.n.tT, r.n.iB, r.n.tB, r.n.b0, lT, lU, m0, fun t' it' tt' l' hs => ?_⟩
  refine mk_rowS hp it' tt' r.n.iB r.n.tB r.n.u0 (by omega) (by omega) (hs S r.s) fun T' U' r' l1 l2 => .here (q T' U' r' (by omega) l2)
end DL

set_option Elab.async false
set_option linter.all false
set_option maxRecDepth 100000
set_option maxHeartbeats 400000
namespace DL
open PySem PySem.Spec PyProof.Rows L2
open PySem.W (Frag)
variable [TB]
/-! ### the first unlike place -/
/-- what first_unlike tells -/
def Unl (S S' : Nat → Int) (d : D) (b : Nat) : Prop := (d = .non ∧ ∀ n, S n = S' n) ∨ (∃ n : Nat, d = .int (n : Int) ∧ S n ≠ S' n ∧ (∀ k, k < n → S k = S' k) ∧ n < b)
def sp_first_unlike : DSp := fun xs M Q E => ∃ p T U T' U' S S', xs = [rowD p T U, rowD p T' U'] ∧ Pr p ∧ T.length ≤ 400 ∧ U.length ≤ 400 ∧ T'.length ≤ 400 ∧ U'.length ≤ 400 ∧ RSe p S T U ∧ RSe p S' T' U' ∧
  ∀ d, Unl S S' d (max (T.length + U'.length) (T'.length + U.length) - 1) → Q d M
/-- the beads behind noughts -/
theorem RSe.lead {p : Int} {S : Nat → Int} {T U : List Int} (hp : Pr p) (h : RSe p S T U) : ∀ n, (∀ k, k < n → ati T k = 0) → (∀ k, k < n → S k = 0) ∧ S n = ati T n := by
  intro n
  induction n with
  | zero => exact fun _ => ⟨fun _ z => absurd z (Nat.not_lt_zero _), h.zero hp⟩
  | succ n ih =>
    intro hz
    obtain ⟨h1, h2⟩ := ih fun k hk => hz k (by omega)
    have h3 : ∀ k, k < n + 1 → S k = 0 := fun k hk => by
      by_cases e : k = n
      · rw [e, h2, hz n (by omega)]
      · exact h1 k (by omega)
    refine ⟨h3, ?_⟩
    have e := h.s.eq (n + 1)
    rw [mulS_head, h.n.b0, Int.one_mul, sm_zero fun i hi => by rw [h3 _ (by omega), Int.mul_zero], Int.add_zero] at e
    have h4 := h.n.iT.at hp.pos (n + 1)
    rwa [Int.emod_eq_of_lt (h.s.bd _).1 (h.s.bd _).2, Int.emod_eq_of_lt h4.1 h4.2] at e
theorem diff_zero {p a b : Int} (ha : 0 ≤ a ∧ a < p) (hb : 0 ≤ b ∧ b < p) : (a + -1 * b) % p = 0 ↔ a = b := by
  have e : a + -1 * b = a - b := by omega
  rw [e, ← mod_sub, Int.emod_eq_of_lt ha.1 ha.2, Int.emod_eq_of_lt hb.1 hb.2]
def b_first_unlike : DTS := (dSeq (dAsg (dMeth "Row" "top" sp_Row_top [] (dCall sp_minus (dCons (dVar 0) (dCons (dVar 1) dNil))) dNil) (dgName 2)) (dSeq (dAsg (dComp (dIEnum (dCons (dVar 2) dNil)) (tgT [4, 5]) (dB (dOp fNe (dVar 5) (dC (.int 0)))) (dVar 4) [4, 5]) (dgName 3)) (dRet (dCBK fMinD (dCons (dVar 3) dNil) (dCons (dC .non) dNil)))))
theorem hd_first_unlike : ∀ (xs : List D) (M : HM) (Q : DK) (E : XDK), sp_first_unlike xs M Q E → xs.length = (["one", "other"] : List Str).length ∧ b_first_unlike (ends Q E) (startD (["one", "other", "top", "places", "place", "bead"] : List Str).length xs) M := by
  rintro xs M Q E ⟨p, T, U, T', U', S, S', rfl, hp, lT, lU, lT', lU', r, r', q⟩
  refine ⟨rfl, ?_⟩
  have hp0 := hp.pos
  simp only [b_first_unlike, dNext, dSeq, dDrop, dRet, dRetN, dIf, dCall, dCB, dCBK, dCons, dNil, dVar, dC, dOp, dB, dTru, dAndT, dOrT, dNotT, dAndV, dOrV, dNotV, dIfE, dChain, dTup, dLst, dSl, dPart, dNoPart, dgName, dgTup, dgCons, dgNil, dgSub, dAsg, dPar, dAug, dNeg, ends, fLt, fLe, fGt, fGe, fSub, fMod, fDiv, fPow, fAdd, fMul, iAddI, iSubI, ii, fInt, fMax2, fMin2, fLen, fTuple, fList, List.length_cons, List.length_nil, List.map_cons, List.map_nil, startD, List.replicate, List.cons_append, List.nil_append, List.append_nil, Nat.zero_add, Nat.reduceAdd, Nat.reduceSub, List.getElem?_cons_succ, List.getElem?_cons_zero, List.set_cons_zero, List.set_cons_succ, wipeD, dFld, dFldSet, dMeth, dMake, dIsO, dFmt, dJs, dStep, dRaise0, iDivI, iModI, iMulI]
  refine ⟨p, T, U, p, T', U', rfl, fun z => absurd rfl z, fun _ => ⟨hp, lT, lU, lT', lU', S, S', r, r', fun T3 U3 r3 l3 l4 => ?_⟩⟩
  refine ⟨_, ob_row, nk_top, _, _, _, rfl, ?_⟩
  refine comp_en (ns := T3) (x := tI T3) (g := fun i => .int (i : Int)) (p := fun i => !decide (ati T3 i = 0)) rfl (fun Q' q' => by simpa only [dNext, dSeq, dDrop, dRet, dRetN, dIf, dCall, dCB, dCBK, dCons, dNil, dVar, dC, dOp, dB, dTru, dAndT, dOrT, dNotT, dAndV, dOrV, dNotV, dIfE, dChain, dTup, dLst, dSl, dPart, dNoPart, dgName, dgTup, dgCons, dgNil, dgSub, dAsg, dPar, dAug, dNeg, ends, fLt, fLe, fGt, fGe, fSub, fMod, fDiv, fPow, fAdd, fMul, iAddI, iSubI, ii, fInt, fMax2, fMin2, fLen, fTuple, fList, List.length_cons, List.length_nil, List.map_cons, List.map_nil, startD, List.replicate, List.cons_append, List.nil_append, List.append_nil, Nat.zero_add, Nat.reduceAdd, Nat.reduceSub, List.getElem?_cons_succ, List.getElem?_cons_zero, List.set_cons_zero, List.set_cons_succ, wipeD, dFld, dFldSet, dMeth, dMake, dIsO, dFmt, dJs, dStep, dRaise0, iDivI, iModI, iMulI] using q') (by omega) rfl (fun i hi => ⟨fun Q' q' => ?_, fun hpi Q' q' => ?_⟩) ?_
  · simp only [setNs, dNext, dSeq, dDrop, dRet, dRetN, dIf, dCall, dCB, dCBK, dCons, dNil, dVar, dC, dOp, dB, dTru, dAndT, dOrT, dNotT, dAndV, dOrV, dNotV, dIfE, dChain, dTup, dLst, dSl, dPart, dNoPart, dgName, dgTup, dgCons, dgNil, dgSub, dAsg, dPar, dAug, dNeg, ends, fLt, fLe, fGt, fGe, fSub, fMod, fDiv, fPow, fAdd, fMul, iAddI, iSubI, ii, fInt, fMax2, fMin2, fLen, fTuple, fList, List.length_cons, List.length_nil, List.map_cons, List.map_nil, startD, List.replicate, List.cons_append, List.nil_append, List.append_nil, Nat.zero_add, Nat.reduceAdd, Nat.reduceSub, List.getElem?_cons_succ, List.getElem?_cons_zero, List.set_cons_zero, List.set_cons_succ, wipeD, dFld, dFldSet, dMeth, dMake, dIsO, dFmt, dJs, dStep, dRaise0, iDivI, iModI, iMulI]
    exact ne_int q'
  · simp only [setNs, dNext, dSeq, dDrop, dRet, dRetN, dIf, dCall, dCB, dCBK, dCons, dNil, dVar, dC, dOp, dB, dTru, dAndT, dOrT, dNotT, dAndV, dOrV, dNotV, dIfE, dChain, dTup, dLst, dSl, dPart, dNoPart, dgName, dgTup, dgCons, dgNil, dgSub, dAsg, dPar, dAug, dNeg, ends, fLt, fLe, fGt, fGe, fSub, fMod, fDiv, fPow, fAdd, fMul, iAddI, iSubI, ii, fInt, fMax2, fMin2, fLen, fTuple, fList, List.length_cons, List.length_nil, List.map_cons, List.map_nil, startD, List.replicate, List.cons_append, List.nil_append, List.append_nil, Nat.zero_add, Nat.reduceAdd, Nat.reduceSub, List.getElem?_cons_succ, List.getElem?_cons_zero, List.set_cons_zero, List.set_cons_succ, wipeD, dFld, dFldSet, dMeth, dMake, dIsO, dFmt, dJs, dStep, dRaise0, iDivI, iModI, iMulI]
    exact q'
  have d0 : ∀ n, (S n + -1 * S' n) % p = 0 ↔ S n = S' n := fun n => diff_zero (r.s.bd n) (r'.s.bd n)
  have hmem : ∀ y : Int, y ∈ ((List.range T3.length).filter fun i => !decide (ati T3 i = 0)).map (fun i : Nat => (i : Int)) ↔ ∃ i : Nat, i < T3.length ∧ ati T3 i ≠ 0 ∧ (i : Int) = y := by
    intro y
    simp only [List.mem_map, List.mem_filter, List.mem_range]
    constructor
    · rintro ⟨i, ⟨h1, h2⟩, h3⟩
      exact ⟨i, h1, by simpa using h2, h3⟩
    · rintro ⟨i, h1, h2, h3⟩
      exact ⟨i, ⟨h1, by simpa using h2⟩, h3⟩
  refine ⟨((List.range T3.length).filter fun i => !decide (ati T3 i = 0)).map (fun i : Nat => (i : Int)), by simp [lstOf, Function.comp_def], fun hn => .here (q .non (.inl ⟨rfl, fun n => ?_⟩)), fun m hm hx => ?_⟩
  · have hz : ∀ k, ati T3 k = 0 := fun k => by
      by_cases hk : k < T3.length
      · apply Classical.byContradiction
        intro z
        have := (hmem (k : Int)).mpr ⟨k, hk, z, rfl⟩
        rw [hn] at this
        cases this
      · exact ati_ge (Nat.le_of_not_lt hk)
    have h1 := (r3.lead hp n fun k _ => hz k).2
    rw [hz] at h1
    exact (d0 n).mp h1
  · obtain ⟨i, h1, h2, h3⟩ := (hmem m).mp hm
    subst h3
    have hz : ∀ k, k < i → ati T3 k = 0 := fun k hk => by
      apply Classical.byContradiction
      intro z
      have := hx _ ((hmem (k : Int)).mpr ⟨k, by omega, z, rfl⟩)
      omega
    obtain ⟨h4, h5⟩ := r3.lead hp i hz
    refine .here (q _ (.inr ⟨i, rfl, fun z => h2 ?_, fun k hk => (d0 k).mp (h4 k hk), by omega⟩))
    rw [← h5]; exact (d0 i).mpr z
end DL

set_option Elab.async false
set_option linter.all false
set_option maxRecDepth 100000
set_option maxHeartbeats 400000
namespace DL
open PySem PySem.Spec PyProof.Rows L2
open PySem.W (Frag)
variable [TB]
/-! ### common: comprehensions over lists, texts of numbers, first ones -/
theorem rp_int {n : Nat} {M : HM} (h : n ≤ 1000000) : rpOk (rd M (.int (n : Int))) := by
  have hb : ∀ x ∈ [(n : Int)], x.natAbs < 10 ^ 12 := fun x hx => by
    rw [List.mem_singleton.mp hx]
    exact Nat.lt_of_le_of_lt (show (n : Int).natAbs ≤ 1000000 by omega) (by decide +kernel)
  have h1 : (PyData.showable (.int (n : Int)) && true) = true := show_ints hb
  have h2 : (PyData.intsShort 13 (.int (n : Int)) && true) = true := PyData.intsShortAll_ints _ hb
  have h3 : PyData.weight (.int (n : Int)) + 1 + 0 ≤ 42 * 1 := weight_ints _ hb
  rw [Bool.and_true] at h1 h2
  have ok : okD (.int (n : Int)) = true := rfl
  refine ⟨ok, h1, ?_⟩
  have := PyData.shown_le 13 (by decide) _ (PyData.leavesShort_of_canLay0 13 _ (canLay_toPy (.int (n : Int)) rfl) h2)
  have e : (toPy (rd M (.int (n : Int)))).shown.length = (PyData.shown (.int (n : Int))).length := rfl
  have h4 : (toPy (.int (n : Int))).weight = PyData.weight (.int (n : Int)) := rfl
  rw [e]
  have h5 : (PyData.shown (.int (n : Int))).length = (toPy (.int (n : Int))).shown.length := rfl
  omega
theorem filt_head {f : Nat → Bool} : ∀ (N n : Nat), n < N → f n = true → (∀ k, k < n → f k = false) → ∃ r, (List.range N).filter f = n :: r := by
  intro N n hn h1 h2
  have e : List.range N = List.range n ++ (n :: (List.range' (n + 1) (N - n - 1))) := by
    have h3 : N = n + (1 + (N - n - 1)) := by omega
    rw [List.range_eq_range', h3, ← List.range'_append, List.range_eq_range', ← List.range'_append]
    simp [List.range'_one]
  rw [e, List.filter_append, List.filter_eq_nil_iff.mpr (fun k hk => by simp [h2 k (List.mem_range.mp hk)]), List.filter_cons, if_pos h1]
  exact ⟨_, rfl⟩
theorem filt_none {f : Nat → Bool} (N : Nat) (h2 : ∀ k, k < N → f k = false) : (List.range N).filter f = [] := List.filter_eq_nil_iff.mpr fun k hk => by simp [h2 k (List.mem_range.mp hk)]
theorem atI_zero {x : D} {r : List D} : atI (x :: r) 0 = some x := by rw [atI_lt (by decide) (by rw [List.length_cons]; omega)]; rfl
/-- [.. for v in a list] -/
theorem comp_seq {tg : DTgt} {vs : List Nat} {d : DTE} {de : DTE} {σ : DSt} {M M1 : HM} {Q : DK} {E : XDK} {ds : List D} {x : D} (f : D → D) (hx : frzOf x = some ds) (hr : ∀ Q' : DK, Q' x M1 → d σ M Q' E) (h1 : ds.length ≤ 1000000)
    (h : ∀ y ∈ ds, ∃ σ2, tg (wipeD σ vs) y = some σ2 ∧ ∀ Q', Q' (f y) M1 → de σ2 M1 Q' (fun _ _ => False)) (q : Q (.lst (ds.map f)) M1) : dComp (dISeq d) tg dYes de vs σ M Q E := by
  refine hr _ ⟨_, hx, h1, ?_⟩
  exact compL_map (f := f) _ [] h (by simpa using q)
theorem comp_seq_if {tg : DTgt} {tc : DTT} {vs : List Nat} {d : DTE} {de : DTE} {σ : DSt} {M M1 : HM} {Q : DK} {E : XDK} {ds : List D} {x : D} (f : D → D) (p : D → Bool) (hx : frzOf x = some ds) (hr : ∀ Q' : DK, Q' x M1 → d σ M Q' E) (h1 : ds.length ≤ 1000000)
    (h : ∀ y ∈ ds, ∃ σ2, tg (wipeD σ vs) y = some σ2 ∧ (∀ Q', Q' (p y) M1 → tc σ2 M1 Q' (fun _ _ => False)) ∧ (p y = true → ∀ Q', Q' (f y) M1 → de σ2 M1 Q' (fun _ _ => False))) (q : Q (.lst ((ds.filter p).map f)) M1) : dComp (dISeq d) tg tc de vs σ M Q E := by
  refine hr _ ⟨_, hx, h1, ?_⟩
  exact compL_if (f := f) (p := p) _ [] h (by simpa using q)
end DL

set_option Elab.async false
set_option linter.all false
set_option maxRecDepth 100000
set_option maxHeartbeats 400000
namespace DL
open PySem PySem.Spec PyProof.Rows L2
open PySem.W (Frag)
variable [TB]
/-! ### what is dropped has the bottom; what is left of it is finite -/
/-- S's first m beads -/
def Hd (m : Nat) (S : Nat → Int) (n : Nat) : Int := if n < m then S n else 0
theorem Hd.fs (m : Nat) (S : Nat → Int) : Fs (Hd m S) := ⟨m, fun n hn => by unfold Hd; rw [if_neg (by omega)]⟩
theorem hd_sh (m : Nat) (S : Nat → Int) (n : Nat) : S n = Hd m S n + ShN m (fun k => S (k + m)) n := by
  unfold Hd ShN
  by_cases h : n < m
  · rw [if_pos h, if_pos h, Int.add_zero]
  · rw [if_neg h, if_neg h, Int.zero_add]
    show S n = S (n - m + m)
    rw [Nat.sub_add_cancel (by omega)]
theorem RSe.drop {p : Int} {S : Nat → Int} {T U : List Int} (hp : Pr p) (r : RSe p S T U) (m : Nat) : ∃ t', RSe p (fun n => S (n + m)) t' U := by
  have hp0 := hp.pos
  let f : Nat → Int := fun n => mulS (ati U) (fun k => S (k + m)) n % p
  let N := max T.length U.length
  have hz : ∀ n, N ≤ n → f n = 0 := fun n hn => by
    have e1 : mulS (ati U) (fun k => S (k + m)) n = mulS (ati U) S (n + m) := by
      have h1 : mulS (ati U) S (n + m) = sm (fun k => ati U k * S (n + m - k)) (n + 1) := sm_more (n := n + 1) (by omega) fun k h1 _ => by rw [ati_ge (by omega), Int.zero_mul]
      rw [h1]
      exact sm_congr fun k hk => by
        show ati U k * S (n - k + m) = _
        rw [show n - k + m = n + m - k by omega]
    show mulS (ati U) (fun k => S (k + m)) n % p = 0
    rw [e1, r.s.eq (n + m), ati_ge (by omega)]
    exact Int.zero_emod p
  let t' := trim ((List.range N).map f)
  have at' : ∀ n, ati t' n = f n := fun n => by
    show ati (trim _) n = _
    rw [ati_trim, ati_range]
    by_cases h : n < N
    · rw [if_pos h]
    · rw [if_neg h, hz n (by omega)]
  have i' : In p t' := In.trim fun x hx => by
    obtain ⟨k, _, rfl⟩ := List.mem_map.mp hx
    exact ⟨Int.emod_nonneg _ (by omega), Int.emod_lt_of_pos _ hp0⟩
  have s' : Ser p t' U (fun n => S (n + m)) := ⟨fun n => r.s.bd _, fun n => by
    rw [at' n]
    show _ = mulS (ati U) (fun k => S (k + m)) n % p % p
    rw [Int.emod_emod]⟩
  refine ⟨t', ⟨i', trim_trim _, r.n.iB, r.n.tB, r.n.b0, ?_⟩, s'⟩
  -- T = x^m t' + P U
  have hT : Cg p (ati T) (fun n => ShN m (ati t') n + mulS (ati U) (Hd m S) n) := fun n => by
    have e : mulS (ati U) S n = mulS (ati U) (Hd m S) n + ShN m (mulS (ati U) (fun k => S (k + m))) n := by
      rw [← mulS_ShN, ← mulS_add]
      exact sm_congr fun k _ => by rw [hd_sh m S]
    rw [← r.s.eq n, e, Int.add_comm]
    exact Cg.add (s'.eq.ShN m) (Cg.refl (mulS (ati U) (Hd m S))) n
  obtain ⟨u, v, fu, fv, e⟩ := r.n.lc
  refine ⟨ShN m u, fun n => mulS (Hd m S) u n + v n, fu.sh m, ((Hd.fs m S).mul fu).add fv, ?_⟩
  refine Cg.trans ?_ e
  have h1 : Cg p (mulS (ati T) u) (fun n => mulS (ShN m (ati t')) u n + mulS (mulS (ati U) (Hd m S)) u n) := (hT.mul (.refl u)).trans (.fn fun n => mulS_addR _ _ _ n)
  intro n
  have h2 : (mulS (ati t') (ShN m u) n + mulS (ati U) (fun n => mulS (Hd m S) u n + v n) n) = ((mulS (ShN m (ati t')) u n + mulS (mulS (ati U) (Hd m S)) u n) + mulS (ati U) v n) := by
    rw [mulS_ShN, mulS_add, mulS_assoc, mulS_comm (ShN m (ati t')) u, mulS_ShN, Int.add_assoc]
    congr 1
    exact ShN_fn (fun n => mulS_comm _ _ n) n
  show (mulS (ati t') (ShN m u) n + mulS (ati U) (fun n => mulS (Hd m S) u n + v n) n) % p = (mulS (ati T) u n + mulS (ati U) v n) % p
  rw [h2]
  exact (Cg.add h1 (Cg.refl (mulS (ati U) v)) n).symm
/-- a row that ends -/
theorem RSe.ends {p : Int} {S : Nat → Int} {T U : List Int} (hp : Pr p) (r : RSe p S T U) {m : Nat} (h : ∀ n, m ≤ n → S n = 0) : T = trim ((List.range m).map S) ∧ U = [1] := by
  have hp0 := hp.pos
  have o1 := one11 hp
  have e : ∀ n, ati (trim ((List.range m).map S)) n = S n := fun n => by
    rw [ati_trim, ati_range]
    by_cases hn : n < m
    · rw [if_pos hn]
    · rw [if_neg hn, h n (by omega)]
  have iT : In p (trim ((List.range m).map S)) := In.trim fun x hx => by
    obtain ⟨k, _, rfl⟩ := List.mem_map.mp hx
    exact r.s.bd k
  exact r.eq hp ⟨row_one hp iT (trim_trim _), ⟨r.s.bd, fun n => by rw [mulS_one, e]⟩⟩ fun n => rfl
end DL

set_option Elab.async false
set_option linter.all false
set_option maxRecDepth 100000
set_option maxHeartbeats 400000
namespace DL
open PySem PySem.Spec PyProof.Rows L2
open PySem.W (Frag)
variable [TB]
/-! ### sums and works -/
abbrev sumR (p : Int) (a b : List Int) : List Int := trim (zipR (max a.length b.length) fun k => (ati a k + ati b k) % p)
theorem ati_sumR {p : Int} {a b : List Int} (k : Nat) : ati (sumR p a b) k = (ati a k + ati b k) % p := by
  have e := add_at (p := p) (a := a) (b := b) (s := 1) k
  simp only [Int.one_mul] at e
  exact e
theorem In.sum {p : Int} (hp : 0 < p) (a b : List Int) : In p (sumR p a b) ∧ Tr (sumR p a b) := In.add hp a b fun k => ati a k + ati b k
theorem len_sum (p : Int) (a b : List Int) : (sumR p a b).length ≤ max a.length b.length := len_zip
/-- so many noughts ahead -/
def psh (b : List Int) (n : Nat) : List Int := if b = [] then [] else List.replicate n 0 ++ b
theorem ati_psh (b : List Int) (n k : Nat) : ati (psh b n) k = ShN n (ati b) k := by
  unfold psh
  split
  · rename_i h
    subst h
    unfold ShN
    rw [ati_nil]
    split
    · rfl
    · rw [ati_nil]
  · exact ati_ShN b n k
theorem In.psh {p : Int} (hp : 0 < p) {b : List Int} (i : In p b) (n : Nat) : In p (psh b n) := by
  unfold DL.psh
  split
  · exact fun _ z => nomatch z
  · exact i.rep hp n
theorem Tr.psh {b : List Int} (t : Tr b) (n : Nat) : Tr (psh b n) := by
  unfold DL.psh
  split
  · rfl
  · rename_i h
    exact t.rep h n
theorem len_psh (b : List Int) (n : Nat) : (psh b n).length ≤ n + b.length := by
  unfold psh
  split
  · exact Nat.zero_le _
  · rw [List.length_append, List.length_replicate]; exact Nat.le_refl _
theorem rep_int (k : Nat) (c : Int) : repD (k : Int) [D.int c] = dI (List.replicate k c) := by
  unfold repD
  rw [Int.toNat_natCast]
  induction k with
  | zero => rfl
  | succ n ih => rw [List.replicate_succ, List.flatten_cons, ih, List.replicate_succ]; rfl
def sp_pushed : DSp := fun xs M Q _ => ∃ b n, xs = [tI b, .int n] ∧ 0 ≤ n ∧ n ≤ 5000 ∧ b.length ≤ 5000 ∧ Q (tI (psh b n.toNat)) M
def sp__law_ahead : DSp := sp_pushed
theorem tI_nil {b : List Int} : tI b = .tup [] ↔ b = [] := by
  constructor
  · intro h
    have := D.tup.inj h
    simpa using this
  · rintro rfl; rfl
def b_pushed : DTS := (dRet (dIfE (dB (dOp fNe (dVar 0) (dTup dNil))) (dOp fAdd (dOp fMul (dTup (dCons (dC (.int 0)) dNil)) (dVar 1)) (dVar 0)) (dTup dNil)))
theorem hd_pushed : ∀ (xs : List D) (M : HM) (Q : DK) (E : XDK), sp_pushed xs M Q E → xs.length = (["beads", "many"] : List Str).length ∧ b_pushed (ends Q E) (startD (["beads", "many"] : List Str).length xs) M := by
  rintro xs M Q E ⟨b, n, rfl, n0, n1, lb, q⟩
  refine ⟨rfl, ?_⟩
  simp only [startD, List.map_cons, List.map_nil, List.length_cons, List.length_nil, List.replicate, List.cons_append, List.nil_append, Nat.zero_add, Nat.reduceAdd, Nat.reduceSub]
  simp only [b_pushed, dNext, dSeq, dDrop, dRet, dRetN, dIf, dCall, dCB, dCBK, dCons, dNil, dVar, dC, dOp, dB, dTru, dAndT, dOrT, dNotT, dAndV, dOrV, dNotV, dIfE, dChain, dTup, dLst, dSl, dPart, dNoPart, dgName, dgTup, dgCons, dgNil, dgSub, dAsg, dPar, dAug, dNeg, ends, fLt, fLe, fGt, fGe, fSub, fMod, fDiv, fPow, iAddI, iSubI, ii, fInt, fMax2, fMin2, fLen, fTuple, fList, List.length_cons, List.length_nil, startD, List.replicate, List.cons_append, List.nil_append, List.append_nil, Nat.zero_add, Nat.reduceAdd, Nat.reduceSub, List.getElem?_cons_succ, List.getElem?_cons_zero, List.set_cons_zero, List.set_cons_succ, wipeD, dFld, dFldSet, dMeth, dMake, dIsO, dFmt, dJs, dStep, dRaise0, iDivI, iModI, iMulI, dRaiseX, dMeth2, dIsi2]
  refine ⟨by decide, ne_tI (b := []) ⟨fun h => ?_, fun h => ⟨by decide, ?_⟩⟩⟩
  · have hb : ¬ b = [] := by simpa using h
    obtain ⟨m, rfl⟩ : ∃ m : Nat, n = (m : Int) := ⟨n.toNat, by omega⟩
    refine ⟨by decide, ⟨by omega, by omega, by simp; omega⟩, ?_⟩
    rw [rep_zero]
    refine fAdd_tup (by simp; omega) (.here ?_)
    unfold psh at q
    rw [if_neg hb, Int.toNat_natCast] at q
    rw [← List.map_append]
    exact q
  · have hb : b = [] := by simpa using h
    subst hb
    exact .here q
def b__law_ahead : DTS := (dRet (dIfE (dB (dOp fNe (dVar 0) (dTup dNil))) (dOp fAdd (dOp fMul (dTup (dCons (dC (.int 0)) dNil)) (dVar 1)) (dVar 0)) (dTup dNil)))
theorem hd__law_ahead : ∀ (xs : List D) (M : HM) (Q : DK) (E : XDK), sp__law_ahead xs M Q E → xs.length = (["_law_beads_here", "_law_many"] : List Str).length ∧ b__law_ahead (ends Q E) (startD (["_law_beads_here", "_law_many"] : List Str).length xs) M := by
  exact hd_pushed
def sp__law_plus : DSp := fun xs M Q _ => ∃ (p : Int) (a b : List Int), xs = [.int p, tI a, tI b] ∧ 0 < p ∧ a.length ≤ 100000 ∧ b.length ≤ 100000 ∧ Q (tI (sumR p a b)) M
def b__law_plus : DTS := (dSeq (dAsg (dCB fMax2 (dCons (dCB fLen (dCons (dVar 1) dNil)) (dCons (dCB fLen (dCons (dVar 2) dNil)) dNil))) (dgName 3)) (dSeq (dAsg (dComp (dIRng1 (dCons (dVar 3) dNil)) (tgN 5) dYes (dOp fAdd (dIfE (dB (dOp fLt (dVar 5) (dCB fLen (dCons (dVar 1) dNil)))) (dOp fIx (dVar 1) (dVar 5)) (dC (.int 0))) (dIfE (dB (dOp fLt (dVar 5) (dCB fLen (dCons (dVar 2) dNil)))) (dOp fIx (dVar 2) (dVar 5)) (dC (.int 0)))) [5]) (dgName 4)) (dRet (dCall sp__law_cut (dCons (dComp (dISeq (dVar 4)) (tgN 6) dYes (dOp fMod (dCB fInt (dCons (dVar 6) dNil)) (dVar 0)) [6]) dNil)))))
theorem hd__law_plus : ∀ (xs : List D) (M : HM) (Q : DK) (E : XDK), sp__law_plus xs M Q E → xs.length = (["_law_p", "_law_one", "_law_other"] : List Str).length ∧ b__law_plus (ends Q E) (startD (["_law_p", "_law_one", "_law_other", "_law_many", "_law_beads_here", "_law_k", "_law_bead"] : List Str).length xs) M := by
  rintro xs M Q E ⟨p, a, b, rfl, hp, la, lb, q⟩
  refine ⟨rfl, ?_⟩
  simp only [startD, List.map_cons, List.map_nil, List.length_cons, List.length_nil, List.replicate, List.cons_append, List.nil_append, Nat.zero_add, Nat.reduceAdd, Nat.reduceSub]
  simp only [b__law_plus, dNext, dSeq, dDrop, dRet, dRetN, dIf, dCall, dCB, dCBK, dCons, dNil, dVar, dC, dOp, dB, dTru, dAndT, dOrT, dNotT, dAndV, dOrV, dNotV, dIfE, dChain, dTup, dLst, dSl, dPart, dNoPart, dgName, dgTup, dgCons, dgNil, dgSub, dAsg, dPar, dAug, dNeg, ends, fLt, fLe, fGt, fGe, fSub, fMod, fDiv, fPow, iAddI, iSubI, ii, fInt, fMax2, fMin2, fLen, fTuple, fList, List.length_cons, List.length_nil, startD, List.replicate, List.cons_append, List.nil_append, List.append_nil, Nat.zero_add, Nat.reduceAdd, Nat.reduceSub, List.getElem?_cons_succ, List.getElem?_cons_zero, List.set_cons_zero, List.set_cons_succ, wipeD, dFld, dFldSet, dMeth, dMake, dIsO, dFmt, dJs, dStep, dRaise0, iDivI, iModI, iMulI, dRaiseX, dMeth2, dIsi2]
  refine ⟨_, rfl, _, rfl, ?_⟩
  have lda : ((dI a).length : Int) = a.length := by simp
  have ldb : ((dI b).length : Int) = b.length := by simp
  rw [lda, ldb]
  obtain ⟨N, hN⟩ : ∃ N : Nat, max (a.length : Int) (b.length : Int) = (N : Int) := ⟨max a.length b.length, by omega⟩
  rw [hN]
  have at_or : ∀ (c : List Int) (k : Nat) (M : HM) (Q' : DK), Q' (.int (ati c k)) M → (decide ((k : Int) < ((dI c).length : Nat)) = true → fIx (tI c) (.int (k : Int)) M Q') ∧ (decide ((k : Int) < ((dI c).length : Nat)) = false → Q' (.int 0) M) := fun c k M Q' q' => by
    refine ⟨fun h => ?_, fun h => ?_⟩
    · have h := of_decide_eq_true h
      rw [List.length_map] at h
      exact ⟨_, by rw [ix_tup, atI_dI (by omega) h, Int.toNat_natCast], q'⟩
    · have h := of_decide_eq_false h
      rw [List.length_map] at h
      rwa [ati_ge (by omega)] at q'
  refine comp_rng (n := (N : Int)) (g := fun k => .int (ati a k + ati b k)) (fun Q' q' => by simpa only [dNext, dSeq, dDrop, dRet, dRetN, dIf, dCall, dCB, dCBK, dCons, dNil, dVar, dC, dOp, dB, dTru, dAndT, dOrT, dNotT, dAndV, dOrV, dNotV, dIfE, dChain, dTup, dLst, dSl, dPart, dNoPart, dgName, dgTup, dgCons, dgNil, dgSub, dAsg, dPar, dAug, dNeg, ends, fLt, fLe, fGt, fGe, fSub, fMod, fDiv, fPow, iAddI, iSubI, ii, fInt, fMax2, fMin2, fLen, fTuple, fList, List.length_cons, List.length_nil, startD, List.replicate, List.cons_append, List.nil_append, List.append_nil, Nat.zero_add, Nat.reduceAdd, Nat.reduceSub, List.getElem?_cons_succ, List.getElem?_cons_zero, List.set_cons_zero, List.set_cons_succ, wipeD, dFld, dFldSet, dMeth, dMake, dIsO, dFmt, dJs, dStep, dRaise0, iDivI, iModI, iMulI, dRaiseX, dMeth2, dIsi2] using q') (by omega) (by omega) (fun k hk Q' q' => ?_) ?_
  · simp only [dNext, dSeq, dDrop, dRet, dRetN, dIf, dCall, dCB, dCBK, dCons, dNil, dVar, dC, dOp, dB, dTru, dAndT, dOrT, dNotT, dAndV, dOrV, dNotV, dIfE, dChain, dTup, dLst, dSl, dPart, dNoPart, dgName, dgTup, dgCons, dgNil, dgSub, dAsg, dPar, dAug, dNeg, ends, fLt, fLe, fGt, fGe, fSub, fMod, fDiv, fPow, iAddI, iSubI, ii, fInt, fMax2, fMin2, fLen, fTuple, fList, List.length_cons, List.length_nil, startD, List.replicate, List.cons_append, List.nil_append, List.append_nil, Nat.zero_add, Nat.reduceAdd, Nat.reduceSub, List.getElem?_cons_succ, List.getElem?_cons_zero, List.set_cons_zero, List.set_cons_succ, wipeD, dFld, dFldSet, dMeth, dMake, dIsO, dFmt, dJs, dStep, dRaise0, iDivI, iModI, iMulI, dRaiseX, dMeth2, dIsi2]
    refine ⟨_, rfl, at_or a k M _ ⟨_, rfl, at_or b k M _ (fAdd_int q')⟩⟩
  have e1 : (List.range (N : Int).toNat).map (fun k => D.int (ati a k + ati b k)) = dI ((List.range N).map fun k => ati a k + ati b k) := by simp [dI, Function.comp_def]
  rw [e1]
  refine comp_ints (x := .lst (dI ((List.range N).map fun k => ati a k + ati b k))) (M1 := M) (g := fun x => .int (x % p)) rfl (fun Q' q' => by simpa only [dNext, dSeq, dDrop, dRet, dRetN, dIf, dCall, dCB, dCBK, dCons, dNil, dVar, dC, dOp, dB, dTru, dAndT, dOrT, dNotT, dAndV, dOrV, dNotV, dIfE, dChain, dTup, dLst, dSl, dPart, dNoPart, dgName, dgTup, dgCons, dgNil, dgSub, dAsg, dPar, dAug, dNeg, ends, fLt, fLe, fGt, fGe, fSub, fMod, fDiv, fPow, iAddI, iSubI, ii, fInt, fMax2, fMin2, fLen, fTuple, fList, List.length_cons, List.length_nil, startD, List.replicate, List.cons_append, List.nil_append, List.append_nil, Nat.zero_add, Nat.reduceAdd, Nat.reduceSub, List.getElem?_cons_succ, List.getElem?_cons_zero, List.set_cons_zero, List.set_cons_succ, wipeD, dFld, dFldSet, dMeth, dMake, dIsO, dFmt, dJs, dStep, dRaise0, iDivI, iModI, iMulI, dRaiseX, dMeth2, dIsi2] using q') (by simp; omega) (fun x hx Q' q' => ?_) ?_
  · simp only [dNext, dSeq, dDrop, dRet, dRetN, dIf, dCall, dCB, dCBK, dCons, dNil, dVar, dC, dOp, dB, dTru, dAndT, dOrT, dNotT, dAndV, dOrV, dNotV, dIfE, dChain, dTup, dLst, dSl, dPart, dNoPart, dgName, dgTup, dgCons, dgNil, dgSub, dAsg, dPar, dAug, dNeg, ends, fLt, fLe, fGt, fGe, fSub, fMod, fDiv, fPow, iAddI, iSubI, ii, fInt, fMax2, fMin2, fLen, fTuple, fList, List.length_cons, List.length_nil, startD, List.replicate, List.cons_append, List.nil_append, List.append_nil, Nat.zero_add, Nat.reduceAdd, Nat.reduceSub, List.getElem?_cons_succ, List.getElem?_cons_zero, List.set_cons_zero, List.set_cons_succ, wipeD, dFld, dFldSet, dMeth, dMake, dIsO, dFmt, dJs, dStep, dRaise0, iDivI, iModI, iMulI, dRaiseX, dMeth2, dIsi2]
    exact ⟨hp, q'⟩
  · refine ⟨_, (List.range N).map fun k => (ati a k + ati b k) % p, rfl, .inr ?_, by simp; omega, .here ?_⟩
    · simp [lI, dI, Function.comp_def]
    · have eN : N = max a.length b.length := by omega
      subst eN
      exact q
/-! ### a work, tick by tick -/
def wk (p : Int) (l : List Pg) (w : List Int) : Nat → List Int × List Int
  | 0 => ([1], [])
  | n + 1 => match l[(ati w n).toNat]? with
    | some x => (prodR p (mlt x) (wk p l w n).1, sumR p (prodR p (mlt x) (wk p l w n).2) (psh x.2.2 n))
    | none => wk p l w n
theorem wk_succ {p : Int} {l : List Pg} {w : List Int} {n : Nat} {x : Pg} (h : l[(ati w n).toNat]? = some x) : wk p l w (n + 1) = (prodR p (mlt x) (wk p l w n).1, sumR p (prodR p (mlt x) (wk p l w n).2) (psh x.2.2 n)) := by
  show (match l[(ati w n).toNat]? with | some x => _ | none => _) = _
  rw [h]
theorem PgOk.mlt {p c : Int} {x : Pg} (h : PgOk p c x) : In p (mlt x) ∧ Tr (mlt x) ∧ (mlt x).length ≤ 2 ∧ ati (mlt x) 0 = x.1 ∧ ati (mlt x) 1 = x.2.1 := by
  unfold DL.mlt
  refine ⟨In.trim fun y hy => ?_, trim_trim _, trim_len _, by rw [ati_trim]; rfl, by rw [ati_trim]; rfl⟩
  simp only [List.mem_cons, List.not_mem_nil, or_false] at hy
  have h1 := h.s0
  have h2 := h.s1
  have h3 := h.r0
  have h4 := h.r1
  rcases hy with e | e <;> subst e <;> omega
theorem wk_ok {p : Int} {l : List Pg} {w : List Int} {cap : Nat} (hp : Pr p) (hb : Bk p l) (iw : In p w) (hc : ∀ x ∈ l, x.2.2.length ≤ cap) : ∀ n, In p (wk p l w n).1 ∧ Tr (wk p l w n).1 ∧ In p (wk p l w n).2 ∧ Tr (wk p l w n).2 ∧ (wk p l w n).1.length ≤ 2 * n + 1 ∧ (wk p l w n).2.length ≤ 2 * n + cap ∧ ati (wk p l w n).1 0 ≠ 0
  | 0 => ⟨(one11 hp).1.1, rfl, (fun _ z => nomatch z), rfl, Nat.le_refl _, Nat.zero_le _, (show (1 : Int) ≠ 0 by decide)⟩
  | n + 1 => by
    obtain ⟨h1, h2, h3, h4, h5, h6, h7⟩ := wk_ok hp hb iw hc n
    have hn := iw.at hp.pos n
    obtain ⟨x, hx, ok, hm⟩ := hb.get hn.1 hn.2
    rw [wk_succ hx]
    obtain ⟨m1, m2, m3, m4, m5⟩ := ok.mlt
    have lp := len_prod p (mlt x) (wk p l w n).1
    have lp2 := len_prod p (mlt x) (wk p l w n).2
    have ls := len_sum p (prodR p (mlt x) (wk p l w n).2) (psh x.2.2 n)
    have l3 := len_psh x.2.2 n
    have l4 := hc x hm
    refine ⟨(In.prod hp.pos _ _).1, (In.prod hp.pos _ _).2, (In.sum hp.pos _ _).1, (In.sum hp.pos _ _).2, ?_, ?_, ?_⟩
    · show (prodR p (mlt x) (wk p l w n).1).length ≤ _
      omega
    · show (sumR p (prodR p (mlt x) (wk p l w n).2) (psh x.2.2 n)).length ≤ _
      omega
    · exact prod_head hp m1 h1 (by rw [m4]; have := ok.s0; omega) h7
def sp_joined : DSp := fun xs M Q _ => ∃ (p : Int) (f m s a : List Int) (n : Int), xs = [.int p, .tup [tI f, tI m], .tup [tI s, tI a], .int n] ∧ Pr p ∧ In p f ∧ In p m ∧ In p s ∧ In p a ∧ f.length ≤ 1000 ∧ m.length ≤ 1000 ∧ s.length ≤ 1000 ∧ a.length ≤ 1000 ∧ 0 ≤ n ∧ n ≤ 1000 ∧
  Q (.tup [tI (prodR p s f), tI (sumR p (prodR p s m) (psh a n.toNat))]) M
def b_joined : DTS := (dSeq (dAsg (dVar 1) (dgTup 2 (dgCons (dgName 4) (dgCons (dgName 5) dgNil)))) (dSeq (dAsg (dVar 2) (dgTup 2 (dgCons (dgName 6) (dgCons (dgName 7) dgNil)))) (dSeq (dAsg (dCall sp_added (dCons (dVar 0) (dCons (dCall sp_product (dCons (dVar 0) (dCons (dVar 6) (dCons (dVar 5) dNil)))) (dCons (dCall sp_pushed (dCons (dVar 7) (dCons (dVar 3) dNil))) dNil)))) (dgName 8)) (dRet (dTup (dCons (dCall sp_product (dCons (dVar 0) (dCons (dVar 6) (dCons (dVar 4) dNil)))) (dCons (dVar 8) dNil)))))))
theorem hd_joined : ∀ (xs : List D) (M : HM) (Q : DK) (E : XDK), sp_joined xs M Q E → xs.length = (["prime", "one", "other", "many"] : List Str).length ∧ b_joined (ends Q E) (startD (["prime", "one", "other", "many", "first", "more", "second", "again", "rest"] : List Str).length xs) M := by
  rintro xs M Q E ⟨p, f, m, s, a, n, rfl, hp, jf, jm, js, ja, lf, lm, ls, la, n0, n1, q⟩
  refine ⟨rfl, ?_⟩
  have hp0 := hp.pos
  have hp5 := hp.le
  simp only [startD, List.map_cons, List.map_nil, List.length_cons, List.length_nil, List.replicate, List.cons_append, List.nil_append, Nat.zero_add, Nat.reduceAdd, Nat.reduceSub]
  simp only [b_joined, dNext, dSeq, dDrop, dRet, dRetN, dIf, dCall, dCB, dCBK, dCons, dNil, dVar, dC, dOp, dB, dTru, dAndT, dOrT, dNotT, dAndV, dOrV, dNotV, dIfE, dChain, dTup, dLst, dSl, dPart, dNoPart, dgName, dgTup, dgCons, dgNil, dgSub, dAsg, dPar, dAug, dNeg, ends, fLt, fLe, fGt, fGe, fSub, fMod, fDiv, fPow, iAddI, iSubI, ii, fInt, fMax2, fMin2, fLen, fTuple, fList, List.length_cons, List.length_nil, startD, List.replicate, List.cons_append, List.nil_append, List.append_nil, Nat.zero_add, Nat.reduceAdd, Nat.reduceSub, List.getElem?_cons_succ, List.getElem?_cons_zero, List.set_cons_zero, List.set_cons_succ, wipeD, dFld, dFldSet, dMeth, dMake, dIsO, dFmt, dJs, dStep, dRaise0, iDivI, iModI, iMulI, dRaiseX, dMeth2, dIsi2]
  refine ⟨_, rfl, rfl, rfl, _, rfl, rfl, rfl, ?_⟩
  have l1 := len_prod p s m
  have l2 := len_psh a n.toNat
  refine ⟨p, s, m, rfl, hp0, ls, lm, In.bd js (by omega), In.bd jm (by omega), ?_⟩
  refine ⟨a, n, rfl, n0, by omega, by omega, ?_⟩
  refine ⟨p, _, _, rfl, hp0, by omega, by omega, ?_⟩
  refine ⟨p, s, f, rfl, hp0, ls, lf, In.bd js (by omega), In.bd jf (by omega), by decide, .here q⟩
def sp_work : DSp := fun xs M Q _ => ∃ p l w cap, xs = [bookD p l, tI w] ∧ Pr p ∧ Bk p l ∧ In p w ∧ (∀ x ∈ l, x.2.2.length ≤ cap) ∧ 2 * w.length + cap + 2 ≤ 1000 ∧ Q (.tup [tI (wk p l w w.length).1, tI (wk p l w w.length).2]) M
def b_work : DTS := (dSeq (dPar 2 3 (dCons (dMeth "Book" "prime" sp_Book_prime [] (dVar 0) dNil) (dCons (dTup (dCons (dTup (dCons (dC (.int 1)) dNil)) (dCons (dTup dNil) dNil))) dNil))) (dSeq (dFor (dIEnum (dCons (dVar 1) dNil)) (dgTup 2 (dgCons (dgName 4) (dgCons (dgName 5) dgNil))) (dAsg (dCall sp_joined (dCons (dVar 2) (dCons (dVar 3) (dCons (dTup (dCons (dMeth "Book" "multiplier" sp_Book_multiplier [] (dVar 0) (dCons (dVar 5) dNil)) (dCons (dMeth "Book" "addend" sp_Book_addend [] (dVar 0) (dCons (dVar 5) dNil)) dNil))) (dCons (dVar 4) dNil))))) (dgName 3))) (dRet (dVar 3))))
theorem hd_work : ∀ (xs : List D) (M : HM) (Q : DK) (E : XDK), sp_work xs M Q E → xs.length = (["book", "word"] : List Str).length ∧ b_work (ends Q E) (startD (["book", "word", "prime", "found", "many", "tick"] : List Str).length xs) M := by
  rintro xs M Q E ⟨p, l, w, cap, rfl, hp, hb, iw, hc, lw, q⟩
  refine ⟨rfl, ?_⟩
  have hp0 := hp.pos
  simp only [startD, List.map_cons, List.map_nil, List.length_cons, List.length_nil, List.replicate, List.cons_append, List.nil_append, Nat.zero_add, Nat.reduceAdd, Nat.reduceSub]
  simp only [b_work, dNext, dSeq, dDrop, dRet, dRetN, dIf, dCall, dCB, dCBK, dCons, dNil, dVar, dC, dOp, dB, dTru, dAndT, dOrT, dNotT, dAndV, dOrV, dNotV, dIfE, dChain, dTup, dLst, dSl, dPart, dNoPart, dgName, dgTup, dgCons, dgNil, dgSub, dAsg, dPar, dAug, dNeg, ends, fLt, fLe, fGt, fGe, fSub, fMod, fDiv, fPow, iAddI, iSubI, ii, fInt, fMax2, fMin2, fLen, fTuple, fList, List.length_cons, List.length_nil, startD, List.replicate, List.cons_append, List.nil_append, List.append_nil, Nat.zero_add, Nat.reduceAdd, Nat.reduceSub, List.getElem?_cons_succ, List.getElem?_cons_zero, List.set_cons_zero, List.set_cons_succ, wipeD, dFld, dFldSet, dMeth, dMake, dIsO, dFmt, dJs, dStep, dRaise0, iDivI, iModI, iMulI, dRaiseX, dMeth2, dIsi2, dFor, dIEnum]
  refine ⟨_, ob_book, nkb_prime, _, _, rfl, by decide, by decide, by decide, dI w, rfl, ?_⟩
  refine forL_inv (fun i σ M' => M' = M ∧ ∃ o4 o5, σ = [some (bookD p l), some (tI w), some (.int p), some (.tup [tI (wk p l w i).1, tI (wk p l w i).2]), o4, o5]) _ 0 ?_ ?_ ⟨rfl, _, _, rfl⟩
  · rintro i x σ M' hx ⟨rfl, o4, o5, rfl⟩ D' er ex eb hnx hct
    obtain ⟨hi, rfl⟩ := enI_at hx
    rw [Nat.zero_add] at hnx ⊢
    simp only [dNext, dSeq, dDrop, dRet, dRetN, dIf, dCall, dCB, dCBK, dCons, dNil, dVar, dC, dOp, dB, dTru, dAndT, dOrT, dNotT, dAndV, dOrV, dNotV, dIfE, dChain, dTup, dLst, dSl, dPart, dNoPart, dgName, dgTup, dgCons, dgNil, dgSub, dAsg, dPar, dAug, dNeg, ends, fLt, fLe, fGt, fGe, fSub, fMod, fDiv, fPow, iAddI, iSubI, ii, fInt, fMax2, fMin2, fLen, fTuple, fList, List.length_cons, List.length_nil, startD, List.replicate, List.cons_append, List.nil_append, List.append_nil, Nat.zero_add, Nat.reduceAdd, Nat.reduceSub, List.getElem?_cons_succ, List.getElem?_cons_zero, List.set_cons_zero, List.set_cons_succ, wipeD, dFld, dFldSet, dMeth, dMake, dIsO, dFmt, dJs, dStep, dRaise0, iDivI, iModI, iMulI, dRaiseX, dMeth2, dIsi2]
    obtain ⟨h1, h2, h3, h4, h5, h6, h7⟩ := wk_ok hp hb iw hc i
    have hn := iw.at hp0 i
    obtain ⟨g, hg, ok, hm⟩ := hb.get hn.1 hn.2
    obtain ⟨m1, m2, m3, m4, m5⟩ := ok.mlt
    have lg := hc g hm
    refine ⟨_, rfl, rfl, rfl, ?_⟩
    refine ⟨_, ob_book, nkb_multiplier, p, l, _, g, rfl, hn.1, hg, ?_⟩
    refine ⟨_, ob_book, nkb_addend, p, l, _, g, rfl, hn.1, hg, by decide, ?_⟩
    refine ⟨p, _, _, mlt g, g.2.2, i, rfl, hp, h1, h3, m1, ok.ie, by omega, by omega, by omega, by omega, by omega, by omega, ?_⟩
    refine hnx _ _ ⟨rfl, some (.int (i : Int)), some (.int (ati w i)), ?_⟩
    rw [wk_succ hg, Int.toNat_natCast]
  · rintro σ M' ⟨rfl, o4, o5, rfl⟩
    simp only [dNext, dSeq, dDrop, dRet, dRetN, dIf, dCall, dCB, dCBK, dCons, dNil, dVar, dC, dOp, dB, dTru, dAndT, dOrT, dNotT, dAndV, dOrV, dNotV, dIfE, dChain, dTup, dLst, dSl, dPart, dNoPart, dgName, dgTup, dgCons, dgNil, dgSub, dAsg, dPar, dAug, dNeg, ends, fLt, fLe, fGt, fGe, fSub, fMod, fDiv, fPow, iAddI, iSubI, ii, fInt, fMax2, fMin2, fLen, fTuple, fList, List.length_cons, List.length_nil, startD, List.replicate, List.cons_append, List.nil_append, List.append_nil, Nat.zero_add, Nat.reduceAdd, Nat.reduceSub, List.getElem?_cons_succ, List.getElem?_cons_zero, List.set_cons_zero, List.set_cons_succ, wipeD, dFld, dFldSet, dMeth, dMake, dIsO, dFmt, dJs, dStep, dRaise0, iDivI, iModI, iMulI, dRaiseX, dMeth2, dIsi2]
    rw [enD_length, List.length_map]
    exact .here q
def sp__law_work : DSp := fun xs M Q _ => ∃ p l w cap, xs = [.int p, .lst (l.map pgD), tI w] ∧ Pr p ∧ Bk p l ∧ In p w ∧ (∀ x ∈ l, x.2.2.length ≤ cap) ∧ 2 * w.length + cap + 2 ≤ 1000 ∧ Q (.tup [tI (wk p l w w.length).1, tI (wk p l w w.length).2]) M
def b__law_work : DTS := (dSeq (dAsg (dTup (dCons (dTup (dCons (dC (.int 1)) dNil)) (dCons (dTup dNil) dNil))) (dgTup 2 (dgCons (dgName 3) (dgCons (dgName 4) dgNil)))) (dSeq (dFor (dIRng1 (dCons (dCB fLen (dCons (dVar 2) dNil)) dNil)) (dgName 5) (dSeq (dAsg (dOp fIx (dVar 1) (dOp fIx (dVar 2) (dVar 5))) (dgTup 3 (dgCons (dgName 6) (dgCons (dgName 7) (dgCons (dgName 8) dgNil))))) (dSeq (dAsg (dCall sp__law_cut (dCons (dTup (dCons (dVar 6) (dCons (dVar 7) dNil))) dNil)) (dgName 9)) (dPar 3 4 (dCons (dCall sp__law_times (dCons (dVar 0) (dCons (dVar 9) (dCons (dVar 3) dNil)))) (dCons (dCall sp__law_plus (dCons (dVar 0) (dCons (dCall sp__law_times (dCons (dVar 0) (dCons (dVar 9) (dCons (dVar 4) dNil)))) (dCons (dCall sp__law_ahead (dCons (dVar 8) (dCons (dVar 5) dNil))) dNil)))) dNil)))))) (dRet (dTup (dCons (dVar 3) (dCons (dVar 4) dNil))))))
theorem hd__law_work : ∀ (xs : List D) (M : HM) (Q : DK) (E : XDK), sp__law_work xs M Q E → xs.length = (["_law_p", "_law_pages_here", "_law_word"] : List Str).length ∧ b__law_work (ends Q E) (startD (["_law_p", "_law_pages_here", "_law_word", "_law_one", "_law_other", "_law_many", "_law_s", "_law_r", "_law_addend", "_law_by"] : List Str).length xs) M := by
  rintro xs M Q E ⟨p, l, w, cap, rfl, hp, hb, iw, hc, lw, q⟩
  refine ⟨rfl, ?_⟩
  have hp0 := hp.pos
  have hp5 := hp.le
  simp only [startD, List.map_cons, List.map_nil, List.length_cons, List.length_nil, List.replicate, List.cons_append, List.nil_append, Nat.zero_add, Nat.reduceAdd, Nat.reduceSub]
  simp only [b__law_work, dNext, dSeq, dDrop, dRet, dRetN, dIf, dCall, dCB, dCBK, dCons, dNil, dVar, dC, dOp, dB, dTru, dAndT, dOrT, dNotT, dAndV, dOrV, dNotV, dIfE, dChain, dTup, dLst, dSl, dPart, dNoPart, dgName, dgTup, dgCons, dgNil, dgSub, dAsg, dPar, dAug, dNeg, ends, fLt, fLe, fGt, fGe, fSub, fMod, fDiv, fPow, iAddI, iSubI, ii, fInt, fMax2, fMin2, fLen, fTuple, fList, List.length_cons, List.length_nil, startD, List.replicate, List.cons_append, List.nil_append, List.append_nil, Nat.zero_add, Nat.reduceAdd, Nat.reduceSub, List.getElem?_cons_succ, List.getElem?_cons_zero, List.set_cons_zero, List.set_cons_succ, wipeD, dFld, dFldSet, dMeth, dMake, dIsO, dFmt, dJs, dStep, dRaise0, iDivI, iModI, iMulI, dRaiseX, dMeth2, dIsi2, dFor, dIRng1]
  refine ⟨by decide, by decide, by decide, _, rfl, rfl, rfl, _, rfl, ⟨by omega, by simp; omega⟩, ?_⟩
  refine forL_inv (fun i σ M' => M' = M ∧ ∃ o5 o6 o7 o8 o9, σ = [some (.int p), some (.lst (l.map pgD)), some (tI w), some (tI (wk p l w i).1), some (tI (wk p l w i).2), o5, o6, o7, o8, o9]) _ 0 ?_ ?_ ⟨rfl, _, _, _, _, _, rfl⟩
  · rintro i x σ M' hx ⟨rfl, o5, o6, o7, o8, o9, rfl⟩ D' er ex eb hnx hct
    obtain ⟨hi, rfl⟩ := rng_at hx
    have hi' : i < w.length := by simpa using hi
    rw [Nat.zero_add] at hnx ⊢
    simp only [dNext, dSeq, dDrop, dRet, dRetN, dIf, dCall, dCB, dCBK, dCons, dNil, dVar, dC, dOp, dB, dTru, dAndT, dOrT, dNotT, dAndV, dOrV, dNotV, dIfE, dChain, dTup, dLst, dSl, dPart, dNoPart, dgName, dgTup, dgCons, dgNil, dgSub, dAsg, dPar, dAug, dNeg, ends, fLt, fLe, fGt, fGe, fSub, fMod, fDiv, fPow, iAddI, iSubI, ii, fInt, fMax2, fMin2, fLen, fTuple, fList, List.length_cons, List.length_nil, startD, List.replicate, List.cons_append, List.nil_append, List.append_nil, Nat.zero_add, Nat.reduceAdd, Nat.reduceSub, List.getElem?_cons_succ, List.getElem?_cons_zero, List.set_cons_zero, List.set_cons_succ, wipeD, dFld, dFldSet, dMeth, dMake, dIsO, dFmt, dJs, dStep, dRaise0, iDivI, iModI, iMulI, dRaiseX, dMeth2, dIsi2]
    obtain ⟨h1, h2, h3, h4, h5, h6, h7⟩ := wk_ok hp hb iw hc i
    have hn := iw.at hp0 i
    obtain ⟨g, hg, ok, hm⟩ := hb.get hn.1 hn.2
    obtain ⟨m1, m2, m3, m4, m5⟩ := ok.mlt
    have lg := hc g hm
    have l1 := len_prod p (mlt g) (wk p l w i).2
    have l2 := len_psh g.2.2 (i : Int).toNat
    rw [Int.zero_add]
    refine ⟨.int (ati w i), by rw [ix_tup, atI_dI (by omega) (by omega), Int.toNat_natCast], pgD g, by rw [ix_lst]; exact atI_pg hn.1 hg, _, rfl, rfl, rfl, by decide, ?_⟩
    refine ⟨tI [g.1, g.2.1], [g.1, g.2.1], rfl, .inl rfl, by simp, ?_⟩
    refine ⟨p, mlt g, _, rfl, hp0, by omega, by omega, In.bd m1 (by omega), In.bd h1 (by omega), ?_⟩
    refine ⟨p, mlt g, _, rfl, hp0, by omega, by omega, In.bd m1 (by omega), In.bd h3 (by omega), ?_⟩
    refine ⟨g.2.2, (i : Int), rfl, by omega, by omega, by omega, ?_⟩
    refine ⟨p, _, _, rfl, hp0, by omega, by omega, ?_⟩
    refine hnx _ _ ⟨rfl, some (.int (i : Int)), some (.int g.1), some (.int g.2.1), some (tI g.2.2), some (tI (mlt g)), ?_⟩
    rw [wk_succ hg, Int.toNat_natCast]
    rfl
  · rintro σ M' ⟨rfl, o5, o6, o7, o8, o9, rfl⟩
    simp only [dNext, dSeq, dDrop, dRet, dRetN, dIf, dCall, dCB, dCBK, dCons, dNil, dVar, dC, dOp, dB, dTru, dAndT, dOrT, dNotT, dAndV, dOrV, dNotV, dIfE, dChain, dTup, dLst, dSl, dPart, dNoPart, dgName, dgTup, dgCons, dgNil, dgSub, dAsg, dPar, dAug, dNeg, ends, fLt, fLe, fGt, fGe, fSub, fMod, fDiv, fPow, iAddI, iSubI, ii, fInt, fMax2, fMin2, fLen, fTuple, fList, List.length_cons, List.length_nil, startD, List.replicate, List.cons_append, List.nil_append, List.append_nil, Nat.zero_add, Nat.reduceAdd, Nat.reduceSub, List.getElem?_cons_succ, List.getElem?_cons_zero, List.set_cons_zero, List.set_cons_succ, wipeD, dFld, dFldSet, dMeth, dMake, dIsO, dFmt, dJs, dStep, dRaise0, iDivI, iModI, iMulI, dRaiseX, dMeth2, dIsi2]
    rw [rgD_length, show ((((dI w).length : Nat) : Int)).toNat = w.length by simp]
    exact ⟨by decide, .here q⟩
theorem rp_two {a b : List Int} {M : HM} (ha : ∀ x ∈ a, 0 ≤ x ∧ x < 8) (hb : ∀ x ∈ b, 0 ≤ x ∧ x < 8) (la : a.length ≤ 2000) (lb : b.length ≤ 2000) : rpOk (rd M (.tup [tI a, tI b])) :=
  (((Rw.ints ha).tup.mono (Nat.le_refl _) (Nat.le_refl _)).app ((Rw.ints hb).tup)).tup.ok (by decide) (by omega)
theorem prod_one {p : Int} {a : List Int} (hp : Pr p) (ia : In p a) (ta : Tr a) : prodR p a [1] = a := In.eq hp.pos (In.prod hp.pos _ _).1 (In.prod hp.pos _ _).2 ia ta ((prod_cg p a [1]).trans ((Cg.comm _ _).trans (.fn fun n => mulS_one _ n)))
theorem prod_nil {p : Int} {a : List Int} (hp : Pr p) : prodR p a [] = [] := In.zero hp.pos (In.prod hp.pos _ _).1 (In.prod hp.pos _ _).2 fun n => by
  rw [prod_cg p a [] n, mulS_comm, mulS_nil]; exact Int.zero_emod p
theorem sum_nil {p : Int} {a : List Int} (hp : Pr p) (ia : In p a) (ta : Tr a) : sumR p [] a = a := In.eq hp.pos (In.sum hp.pos _ _).1 (In.sum hp.pos _ _).2 ia ta fun n => by
  rw [ati_sumR, ati_nil, Int.zero_add, Int.emod_emod]
theorem psh_zero (b : List Int) : psh b 0 = b := by
  unfold psh
  split
  · rename_i h; exact h.symm
  · rfl
theorem cutG_one {α : Type} {xs : List α} : cutG xs (some 1) none = xs.drop 1 := by
  cases xs with
  | nil => simp [cutG]
  | cons y r => exact cutG_from (by decide) (by rw [List.length_cons]; omega)
end DL

set_option Elab.async false
set_option linter.all false
set_option maxRecDepth 100000
set_option maxHeartbeats 400000
namespace DL
open PySem PySem.Spec PyProof.Rows L2
open PySem.W (Frag)
variable [TB]
/-! ### beats -/
/-- the page of a colour -/
def pgAt (l : List Pg) (c : Int) : Pg := (l[c.toNat]?).getD (1, 0, [])
theorem pgAt_of {l : List Pg} {c : Int} {x : Pg} (h : l[c.toNat]? = some x) : pgAt l c = x := by unfold pgAt; rw [h]; rfl
theorem Bk.at {p : Int} {l : List Pg} (hb : Bk p l) {c : Int} (c0 : 0 ≤ c) (c1 : c < p) : l[c.toNat]? = some (pgAt l c) ∧ PgOk p c (pgAt l c) ∧ pgAt l c ∈ l := by
  obtain ⟨x, hx, ok, hm⟩ := hb.get c0 c1
  rw [pgAt_of hx]
  exact ⟨hx, ok, hm⟩
/-- the beads behind a beat -/
def Bt (p : Int) (x : Pg) (S : Nat → Int) (n : Nat) : Int := (x.1 * S (n + 1) + x.2.1 * S n + ati x.2.2 (n + 1)) % p
theorem Bt.bd {p : Int} (hp : 0 < p) (x : Pg) (S : Nat → Int) (n : Nat) : 0 ≤ Bt p x S n ∧ Bt p x S n < p := ⟨Int.emod_nonneg _ (by omega), Int.emod_lt_of_pos _ hp⟩
theorem Bt.fn {p : Int} {x : Pg} {S S' : Nat → Int} (h : ∀ n, S n = S' n) (n : Nat) : Bt p x S n = Bt p x S' n := by unfold Bt; rw [h, h]
/-- the top behind a beat -/
def topOn (p : Int) (x : Pg) (T U : List Int) : List Int := (sumR p (prodR p (mlt x) T) (prodR p x.2.2 U)).drop 1
theorem topOn_in {p : Int} (hp : 0 < p) (x : Pg) (T U : List Int) : In p (topOn p x T U) ∧ Tr (topOn p x T U) := ⟨(In.sum hp _ _).1.drop 1, (In.sum hp _ _).2.drop 1⟩
theorem topOn_len {p : Int} (hp : Pr p) {c : Int} {x : Pg} (ok : PgOk p c x) (T : List Int) {U : List Int} (hu : U ≠ []) : (topOn p x T U).length ≤ max T.length (x.2.2.length + U.length - 2) := by
  unfold topOn
  rw [List.length_drop]
  have h1 := len_sum p (prodR p (mlt x) T) (prodR p x.2.2 U)
  have h2 := len_prod1 (p := p) (a := x.2.2) hu
  have hl := List.length_pos_iff.mpr hu
  have h3 := ok.mlt.2.2.1
  by_cases ht : T = []
  · subst ht
    rw [prod_nil hp] at h1 ⊢
    rw [List.length_nil] at h1
    omega
  · have h4 := len_prod1 (p := p) (a := mlt x) ht
    have := List.length_pos_iff.mpr ht
    omega
theorem mlt_mul {p c : Int} {x : Pg} (ok : PgOk p c x) (S : Nat → Int) (n : Nat) : mulS (ati (mlt x)) S (n + 1) = x.1 * S (n + 1) + x.2.1 * S n := by
  obtain ⟨m1, m2, m3, m4, m5⟩ := ok.mlt
  have e : mulS (ati (mlt x)) S (n + 1) = sm (fun i => ati (mlt x) i * S (n + 1 - i)) 2 := sm_more (n := 2) (by omega) fun i h1 _ => by rw [ati_ge (by omega), Int.zero_mul]
  rw [e]
  show 0 + ati (mlt x) 0 * S (n + 1 - 0) + ati (mlt x) 1 * S (n + 1 - 1) = _
  rw [m4, m5, Int.zero_add]; rfl
theorem Ser.on {p : Int} {x : Pg} {T U : List Int} {S : Nat → Int} (hp : Pr p) (ok : PgOk p (S 0) x) (h : Ser p T U S) : Ser p (topOn p x T U) U (Bt p x S) := by
  have hp0 := hp.pos
  obtain ⟨m1, m2, m3, m4, m5⟩ := ok.mlt
  refine ⟨Bt.bd hp0 x S, ?_⟩
  -- F: times the multiplier, and the addend
  have hF : Cg p (mulS (ati U) fun n => mulS (ati (mlt x)) S n + ati x.2.2 n) (ati (sumR p (prodR p (mlt x) T) (prodR p x.2.2 U))) := by
    refine Cg.trans (fun n => by rw [mulS_add]) (Cg.trans (g := fun n => ati (prodR p (mlt x) T) n + ati (prodR p x.2.2 U) n) (Cg.add ?_ ?_) fun n => by rw [ati_sumR, Int.emod_emod])
    · exact ((Cg.swap _ _ _).trans ((Cg.refl _).mul h.eq)).trans (prod_cg p (mlt x) T).symm
    · exact (Cg.comm _ _).trans (prod_cg p x.2.2 U).symm
  have h0 : (mulS (ati (mlt x)) S 0 + ati x.2.2 0) % p = 0 := by
    have e : mulS (ati (mlt x)) S 0 = x.1 * S 0 := by
      show 0 + ati (mlt x) 0 * S (0 - 0) = _
      rw [m4, Int.zero_add]
    rw [e, Int.add_comm]
    exact ok.hd
  have hN : Cg p (Bt p x S) fun n => mulS (ati (mlt x)) S (n + 1) + ati x.2.2 (n + 1) := fun n => by
    show _ = (mulS (ati (mlt x)) S (n + 1) + ati x.2.2 (n + 1)) % p
    rw [mlt_mul ok]
    unfold Bt
    rw [Int.emod_emod]
  refine ((Cg.refl (ati U)).mul hN).trans fun n => ?_
  rw [mulS_next (ati U) (fun n => mulS (ati (mlt x)) S n + ati x.2.2 n) n]
  have e1 := hF (n + 1)
  unfold topOn
  rw [ati_drop, Nat.add_comm 1 n, ← e1, Int.sub_emod, Int.mul_emod, h0, Int.mul_zero, Int.zero_emod, Int.sub_zero, Int.emod_emod]
def sp_top_on : DSp := fun xs M Q _ => ∃ p l T U, xs = [bookD p l, tI T, tI U] ∧ Pr p ∧ Bk p l ∧ In p T ∧ In p U ∧ U ≠ [] ∧ (∀ x ∈ l, x.2.2.length ≤ 1000) ∧ T.length ≤ 1000 ∧ U.length ≤ 1000 ∧ Q (tI (topOn p (pgAt l (ati T 0)) T U)) M
def b_top_on : DTS := (dSeq (dPar 3 4 (dCons (dMeth "Book" "prime" sp_Book_prime [] (dVar 0) dNil) (dCons (dCall sp_bead_at (dCons (dVar 1) (dCons (dC (.int 0)) dNil))) dNil))) (dSeq (dAsg (dCall sp_product (dCons (dVar 3) (dCons (dMeth "Book" "multiplier" sp_Book_multiplier [] (dVar 0) (dCons (dVar 4) dNil)) (dCons (dVar 1) dNil)))) (dgName 5)) (dRet (dSl (dCall sp_added (dCons (dVar 3) (dCons (dVar 5) (dCons (dCall sp_product (dCons (dVar 3) (dCons (dMeth "Book" "addend" sp_Book_addend [] (dVar 0) (dCons (dVar 4) dNil)) (dCons (dVar 2) dNil)))) dNil)))) (dPart (dC (.int 1))) dNoPart))))
theorem hd_top_on : ∀ (xs : List D) (M : HM) (Q : DK) (E : XDK), sp_top_on xs M Q E → xs.length = (["book", "top", "bottom"] : List Str).length ∧ b_top_on (ends Q E) (startD (["book", "top", "bottom", "prime", "tick", "worked"] : List Str).length xs) M := by
  rintro xs M Q E ⟨p, l, T, U, rfl, hp, hb, iT, iU, nU, hc, lT, lU, q⟩
  refine ⟨rfl, ?_⟩
  have hp0 := hp.pos
  have hp5 := hp.le
  simp only [startD, List.map_cons, List.map_nil, List.length_cons, List.length_nil, List.replicate, List.cons_append, List.nil_append, Nat.zero_add, Nat.reduceAdd, Nat.reduceSub]
  simp only [b_top_on, dNext, dSeq, dDrop, dRet, dRetN, dIf, dCall, dCB, dCBK, dCons, dNil, dVar, dC, dOp, dB, dTru, dAndT, dOrT, dNotT, dAndV, dOrV, dNotV, dIfE, dChain, dTup, dLst, dSl, dPart, dNoPart, dgName, dgTup, dgCons, dgNil, dgSub, dAsg, dPar, dAug, dNeg, ends, fLt, fLe, fGt, fGe, fSub, fMod, fDiv, fPow, iAddI, iSubI, ii, fInt, fMax2, fMin2, fLen, fTuple, fList, List.length_cons, List.length_nil, startD, List.replicate, List.cons_append, List.nil_append, List.append_nil, Nat.zero_add, Nat.reduceAdd, Nat.reduceSub, List.getElem?_cons_succ, List.getElem?_cons_zero, List.set_cons_zero, List.set_cons_succ, wipeD, dFld, dFldSet, dMeth, dMake, dIsO, dFmt, dJs, dStep, dRaise0, iDivI, iModI, iMulI, dRaiseX, dMeth2, dIsi2]
  have hc0 := iT.at hp0 0
  obtain ⟨hx, ok, hm⟩ := hb.at hc0.1 hc0.2
  obtain ⟨m1, m2, m3, m4, m5⟩ := ok.mlt
  have lx := hc _ hm
  refine ⟨_, ob_book, nkb_prime, _, _, rfl, T, 0, rfl, by decide, ?_⟩
  rw [show Int.toNat 0 = 0 from rfl]
  refine ⟨_, ob_book, nkb_multiplier, p, l, _, _, rfl, hc0.1, hx, p, _, T, rfl, hp0, by omega, lT, In.bd m1 (by omega), In.bd iT (by omega), ?_⟩
  refine ⟨_, ob_book, nkb_addend, p, l, _, _, rfl, hc0.1, hx, p, _, U, rfl, hp0, lx, lU, In.bd ok.ie (by omega), In.bd iU (by omega), ?_⟩
  have l1 := len_prod p (mlt (pgAt l (ati T 0))) T
  have l2 := len_prod p (pgAt l (ati T 0)).2.2 U
  refine ⟨p, _, _, rfl, hp0, by omega, by omega, fSl_tup ?_⟩
  rw [cutG_one, dI_drop]
  exact .here q
def sp_beat : DSp := fun xs M Q _ => ∃ p l T U S cap, xs = [bookD p l, rowD p T U] ∧ Pr p ∧ Bk p l ∧ RSe p S T U ∧ (∀ x ∈ l, x.2.2.length ≤ cap) ∧ cap ≤ 1000 ∧ T.length ≤ 1000 ∧ U.length ≤ 1000 ∧
  ∀ T' U', RSe p (Bt p (pgAt l (S 0)) S) T' U' → T'.length ≤ max T.length (cap + U.length - 2) → U'.length ≤ U.length → RowOf p (topOn p (pgAt l (ati T 0)) T U) U T' U' → Q (rowD p T' U') M
def b_beat : DTS := (dSeq (dAsg (dCall sp_need_like (dCons (dVar 0) (dCons (dVar 1) dNil))) (dgName 2)) (dRet (dMake "Row" sp_Row___init__ [] (dCons (dVar 2) (dCons (dCall sp_top_on (dCons (dVar 0) (dCons (dMeth "Row" "top" sp_Row_top [] (dVar 1) dNil) (dCons (dMeth "Row" "bottom" sp_Row_bottom [] (dVar 1) dNil) dNil)))) (dCons (dMeth "Row" "bottom" sp_Row_bottom [] (dVar 1) dNil) dNil))))))
theorem hd_beat : ∀ (xs : List D) (M : HM) (Q : DK) (E : XDK), sp_beat xs M Q E → xs.length = (["book", "row"] : List Str).length ∧ b_beat (ends Q E) (startD (["book", "row", "prime"] : List Str).length xs) M := by
  rintro xs M Q E ⟨p, l, T, U, S, cap, rfl, hp, hb, r, hc, hcap, lT, lU, q⟩
  refine ⟨rfl, ?_⟩
  have hp0 := hp.pos
  simp only [startD, List.map_cons, List.map_nil, List.length_cons, List.length_nil, List.replicate, List.cons_append, List.nil_append, Nat.zero_add, Nat.reduceAdd, Nat.reduceSub]
  simp only [b_beat, dNext, dSeq, dDrop, dRet, dRetN, dIf, dCall, dCB, dCBK, dCons, dNil, dVar, dC, dOp, dB, dTru, dAndT, dOrT, dNotT, dAndV, dOrV, dNotV, dIfE, dChain, dTup, dLst, dSl, dPart, dNoPart, dgName, dgTup, dgCons, dgNil, dgSub, dAsg, dPar, dAug, dNeg, ends, fLt, fLe, fGt, fGe, fSub, fMod, fDiv, fPow, iAddI, iSubI, ii, fInt, fMax2, fMin2, fLen, fTuple, fList, List.length_cons, List.length_nil, startD, List.replicate, List.cons_append, List.nil_append, List.append_nil, Nat.zero_add, Nat.reduceAdd, Nat.reduceSub, List.getElem?_cons_succ, List.getElem?_cons_zero, List.set_cons_zero, List.set_cons_succ, wipeD, dFld, dFldSet, dMeth, dMake, dIsO, dFmt, dJs, dStep, dRaise0, iDivI, iModI, iMulI, dRaiseX, dMeth2, dIsi2]
  refine ⟨_, _, p, p, rfl, hasP_book, hasP_row, fun z => absurd rfl z, fun _ => ?_⟩
  refine ⟨_, ob_row, nk_top, _, _, _, rfl, _, ob_row, nk_bottom, _, _, _, rfl, ?_⟩
  refine ⟨p, l, T, U, rfl, hp, hb, r.n.iT, r.n.iB, r.n.ne, fun x hx => by have := hc x hx; omega, lT, lU, ?_⟩
  refine ⟨_, ob_row, nk_bottom, _, _, _, rfl, ?_⟩
  have hc0 := r.n.iT.at hp0 0
  have e0 : S 0 = ati T 0 := r.zero hp
  obtain ⟨hx, ok, hm⟩ := hb.at hc0.1 hc0.2
  have ll := topOn_len hp ok T r.n.ne
  have lx := hc _ hm
  have ti := topOn_in hp0 (pgAt l (ati T 0)) T U
  have so : Ser p (topOn p (pgAt l (ati T 0)) T U) U (Bt p (pgAt l (S 0)) S) := by
    rw [e0]
    exact Ser.on hp (by rw [e0]; exact ok) r.s
  refine mk_row hp ti.1 ti.2 r.n.iB r.n.tB r.n.u0 (by omega) (by omega) fun T' U' h => ?_
  exact .here (q T' U' ⟨h.toRowN, so.cross hp r.n.iB r.n.u0 h.cross.symm⟩ (by have := h.lT; omega) h.lB h)
/-! ### the rows behind beats, and ticks -/
def Sk (p : Int) (l : List Pg) (S : Nat → Int) : Nat → Nat → Int
  | 0 => S
  | n + 1 => Bt p (pgAt l (Sk p l S n 0)) (Sk p l S n)
theorem Sk.bd {p : Int} {l : List Pg} {S : Nat → Int} (hp : 0 < p) (h : ∀ n, 0 ≤ S n ∧ S n < p) : ∀ k n, 0 ≤ Sk p l S k n ∧ Sk p l S k n < p
  | 0, n => h n
  | k + 1, n => Bt.bd hp _ _ n
theorem Sk.add (p : Int) (l : List Pg) (S : Nat → Int) (k : Nat) : ∀ n, Sk p l S (k + n) = Sk p l (Sk p l S k) n
  | 0 => rfl
  | n + 1 => by
    show Bt p (pgAt l (Sk p l S (k + n) 0)) (Sk p l S (k + n)) = _
    rw [Sk.add p l S k n]; rfl
def tkl (p : Int) (l : List Pg) (S : Nat → Int) (many : Nat) : List Int := (List.range many).map fun n => Sk p l S n 0
theorem tkl_len {p : Int} {l : List Pg} {S : Nat → Int} {n : Nat} : (tkl p l S n).length = n := by simp [tkl]
theorem tkl_in {p : Int} {l : List Pg} {S : Nat → Int} {n : Nat} (hp : 0 < p) (h : ∀ n, 0 ≤ S n ∧ S n < p) : In p (tkl p l S n) := fun x hx => by
  obtain ⟨k, _, rfl⟩ := List.mem_map.mp hx
  exact Sk.bd hp h k 0
def sp_ticks : DSp := fun xs M Q _ => ∃ p l T U S cap many, xs = [bookD p l, rowD p T U, .int many] ∧ Pr p ∧ Bk p l ∧ RSe p S T U ∧ (∀ x ∈ l, x.2.2.length ≤ cap) ∧ 0 ≤ many ∧ many ≤ 5000 ∧ T.length ≤ 1000 ∧ U.length + cap ≤ 1000 ∧ Q (tI (tkl p l S many.toNat)) M
def b_ticks : DTS := (dSeq (dDrop (dCall sp_need_like (dCons (dVar 0) (dCons (dVar 1) dNil)))) (dSeq (dPar3 3 4 5 (dCons (dMeth "Row" "top" sp_Row_top [] (dVar 1) dNil) (dCons (dMeth "Row" "bottom" sp_Row_bottom [] (dVar 1) dNil) (dCons (dLstM dNil) dNil)))) (dSeq (dFor (dIRng1 (dCons (dVar 2) dNil)) (dgName 6) (dSeq (dDrop (dBM "list" fAppend (dVar 5) (dCons (dCall sp_bead_at (dCons (dVar 3) (dCons (dC (.int 0)) dNil))) dNil))) (dAsg (dCall sp_top_on (dCons (dVar 0) (dCons (dVar 3) (dCons (dVar 4) dNil)))) (dgName 3)))) (dRet (dCB fTuple (dCons (dVar 5) dNil))))))
theorem hd_ticks : ∀ (xs : List D) (M : HM) (Q : DK) (E : XDK), sp_ticks xs M Q E → xs.length = (["book", "row", "many"] : List Str).length ∧ b_ticks (ends Q E) (startD (["book", "row", "many", "top", "bottom", "found", "turn"] : List Str).length xs) M := by
  rintro xs M Q E ⟨p, l, T, U, S, cap, many, rfl, hp, hb, r, hc, m0, m1, lT, lU, q⟩
  refine ⟨rfl, ?_⟩
  have hp0 := hp.pos
  obtain ⟨m, rfl⟩ : ∃ m : Nat, many = (m : Int) := ⟨many.toNat, by omega⟩
  simp only [startD, List.map_cons, List.map_nil, List.length_cons, List.length_nil, List.replicate, List.cons_append, List.nil_append, Nat.zero_add, Nat.reduceAdd, Nat.reduceSub]
  simp only [b_ticks, dNext, dSeq, dDrop, dRet, dRetN, dIf, dCall, dCB, dCBK, dCons, dNil, dVar, dC, dOp, dB, dTru, dAndT, dOrT, dNotT, dAndV, dOrV, dNotV, dIfE, dChain, dTup, dLst, dSl, dPart, dNoPart, dgName, dgTup, dgCons, dgNil, dgSub, dAsg, dPar, dAug, dNeg, ends, fLt, fLe, fGt, fGe, fSub, fMod, fDiv, fPow, iAddI, iSubI, ii, fInt, fMax2, fMin2, fLen, fTuple, fList, List.length_cons, List.length_nil, startD, List.replicate, List.cons_append, List.nil_append, List.append_nil, Nat.zero_add, Nat.reduceAdd, Nat.reduceSub, List.getElem?_cons_succ, List.getElem?_cons_zero, List.set_cons_zero, List.set_cons_succ, wipeD, dFld, dFldSet, dMeth, dMake, dIsO, dFmt, dJs, dStep, dRaise0, iDivI, iModI, iMulI, dRaiseX, dMeth2, dIsi2, dPar3, dLstM, dFor, dIRng1]
  refine ⟨_, _, p, p, rfl, hasP_book, hasP_row, fun z => absurd rfl z, fun _ => ?_⟩
  refine ⟨_, ob_row, nk_top, _, _, _, rfl, _, ob_row, nk_bottom, _, _, _, rfl, by decide, fun f hf => ⟨⟨by omega, by omega⟩, ?_⟩⟩
  refine forL_inv (fun i σ M' => ∃ Ti o6, σ = [some (bookD p l), some (rowD p T U), some (.int (m : Int)), some (tI Ti), some (tI U), some (.ref f), o6] ∧ M' = mup M f (.lst (dI (tkl p l S i))) ∧ In p Ti ∧ Ti.length ≤ 1000 ∧ Ser p Ti U (Sk p l S i)) _ 0 ?_ ?_ ⟨T, _, rfl, rfl, r.n.iT, lT, r.s⟩
  · rintro i x σ M' hx ⟨Ti, o6, rfl, rfl, iTi, lTi, sTi⟩ D' er ex eb hnx hct
    obtain ⟨hi, rfl⟩ := rng_at hx
    rw [Nat.zero_add] at hnx sTi ⊢
    simp only [dNext, dSeq, dDrop, dRet, dRetN, dIf, dCall, dCB, dCBK, dCons, dNil, dVar, dC, dOp, dB, dTru, dAndT, dOrT, dNotT, dAndV, dOrV, dNotV, dIfE, dChain, dTup, dLst, dSl, dPart, dNoPart, dgName, dgTup, dgCons, dgNil, dgSub, dAsg, dPar, dAug, dNeg, ends, fLt, fLe, fGt, fGe, fSub, fMod, fDiv, fPow, iAddI, iSubI, ii, fInt, fMax2, fMin2, fLen, fTuple, fList, List.length_cons, List.length_nil, startD, List.replicate, List.cons_append, List.nil_append, List.append_nil, Nat.zero_add, Nat.reduceAdd, Nat.reduceSub, List.getElem?_cons_succ, List.getElem?_cons_zero, List.set_cons_zero, List.set_cons_succ, wipeD, dFld, dFldSet, dMeth, dMake, dIsO, dFmt, dJs, dStep, dRaise0, iDivI, iModI, iMulI, dRaiseX, dMeth2, dIsi2, dBM]
    have hc0 := iTi.at hp0 0
    have e0 : Sk p l S i 0 = ati Ti 0 := sTi.head hp0 iTi r.n.b0
    obtain ⟨hx, ok, hm⟩ := hb.at hc0.1 hc0.2
    have lx := hc _ hm
    refine ⟨knd_ref mup_same, Ti, 0, rfl, by decide, app_ref mup_same (by simp [tkl]; omega) ?_⟩
    rw [mup_mup, show Int.toNat 0 = 0 from rfl]
    refine ⟨p, l, Ti, U, rfl, hp, hb, iTi, r.n.iB, r.n.ne, fun x hx => by have := hc x hx; omega, lTi, by omega, ?_⟩
    have ll := topOn_len hp ok Ti r.n.ne
    have ti := topOn_in hp0 (pgAt l (ati Ti 0)) Ti U
    refine hnx _ _ ⟨_, _, rfl, ?_, ti.1, by omega, ?_⟩
    · congr 2
      rw [← e0]
      simp [tkl, List.range_succ]
    · show Ser p _ U (Bt p (pgAt l (Sk p l S i 0)) (Sk p l S i))
      rw [e0]
      exact Ser.on hp (by rw [e0]; exact ok) sTi
  · rintro σ M' ⟨Ti, o6, rfl, rfl, iTi, lTi, sTi⟩
    simp only [dNext, dSeq, dDrop, dRet, dRetN, dIf, dCall, dCB, dCBK, dCons, dNil, dVar, dC, dOp, dB, dTru, dAndT, dOrT, dNotT, dAndV, dOrV, dNotV, dIfE, dChain, dTup, dLst, dSl, dPart, dNoPart, dgName, dgTup, dgCons, dgNil, dgSub, dAsg, dPar, dAug, dNeg, ends, fLt, fLe, fGt, fGe, fSub, fMod, fDiv, fPow, iAddI, iSubI, ii, fInt, fMax2, fMin2, fLen, fTuple, fList, List.length_cons, List.length_nil, startD, List.replicate, List.cons_append, List.nil_append, List.append_nil, Nat.zero_add, Nat.reduceAdd, Nat.reduceSub, List.getElem?_cons_succ, List.getElem?_cons_zero, List.set_cons_zero, List.set_cons_succ, wipeD, dFld, dFldSet, dMeth, dMake, dIsO, dFmt, dJs, dStep, dRaise0, iDivI, iModI, iMulI, dRaiseX, dMeth2, dIsi2]
    rw [rgD_length]
    refine ⟨dI (tkl p l S (m : Int).toNat), by unfold seqOf lstOf; dsimp only; rw [mup_same], .of (M' := M) (fun b hb => ?_) q⟩
    rw [mup_ne]
    intro z
    subst z
    exact hb hf
end DL

set_option Elab.async false
set_option linter.all false
set_option maxRecDepth 100000
set_option maxHeartbeats 400000
namespace DL
open PySem PySem.Spec PyProof.Rows L2
open PySem.W (Frag)
variable [TB]
/-! ### works put together -/
def Jn (p : Int) (u v : List Int × List Int) (n : Nat) : List Int × List Int := (prodR p v.1 u.1, sumR p (prodR p v.1 u.2) (psh v.2 n))
/-- a work's two rows are finite rows -/
def WkIn (p : Int) (u : List Int × List Int) : Prop := In p u.1 ∧ Tr u.1 ∧ In p u.2 ∧ Tr u.2
theorem Jn.wi {p : Int} (hp : 0 < p) (u v : List Int × List Int) (n : Nat) : WkIn p (Jn p u v n) := ⟨(In.prod hp _ _).1, (In.prod hp _ _).2, (In.sum hp _ _).1, (In.sum hp _ _).2⟩
theorem WkIn.eq {p : Int} (hp : 0 < p) {u v : List Int × List Int} (hu : WkIn p u) (hv : WkIn p v) (h1 : Cg p (ati u.1) (ati v.1)) (h2 : Cg p (ati u.2) (ati v.2)) : u = v :=
  Prod.ext (In.eq hp hu.1 hu.2.1 hv.1 hv.2.1 h1) (In.eq hp hu.2.2.1 hu.2.2.2 hv.2.2.1 hv.2.2.2 h2)
theorem sum_cg (p : Int) (a b : List Int) : Cg p (ati (sumR p a b)) fun n => ati a n + ati b n := fun n => by rw [ati_sumR, Int.emod_emod]
theorem psh_cg (p : Int) (b : List Int) (n : Nat) : Cg p (ati (psh b n)) (ShN n (ati b)) := .fn fun k => ati_psh b n k
theorem cap_ex : ∀ l : List Pg, ∃ cap, ∀ x ∈ l, x.2.2.length ≤ cap
  | [] => ⟨0, fun _ z => nomatch z⟩
  | y :: r => by
    obtain ⟨cap, h⟩ := cap_ex r
    refine ⟨max y.2.2.length cap, fun x hx => ?_⟩
    rcases List.mem_cons.mp hx with e | e
    · subst e; exact Nat.le_max_left _ _
    · exact Nat.le_trans (h x e) (Nat.le_max_right _ _)
theorem wk_in {p : Int} {l : List Pg} {w : List Int} (hp : Pr p) (hb : Bk p l) (iw : In p w) (n : Nat) : WkIn p (wk p l w n) := by
  obtain ⟨cap, hc⟩ := cap_ex l
  obtain ⟨h1, h2, h3, h4, _⟩ := wk_ok hp hb iw hc n
  exact ⟨h1, h2, h3, h4⟩
/-- the work of a tick behind a work -/
theorem jn_step {p : Int} {l : List Pg} {w : List Int} {n : Nat} {x : Pg} (h : l[(ati w n).toNat]? = some x) : wk p l w (n + 1) = Jn p (wk p l w n) (mlt x, x.2.2) n := wk_succ h
/-- together -/
theorem jn_assoc {p : Int} (hp : Pr p) (u v z : List Int × List Int) (n k : Nat) : Jn p (Jn p u v n) z (n + k) = Jn p u (Jn p v z k) n := by
  have hp0 := hp.pos
  refine WkIn.eq hp0 (Jn.wi hp0 _ _ _) (Jn.wi hp0 _ _ _) ?_ ?_
  · -- z (v u) = (z v) u
    refine (prod_cg p _ _).trans (((Cg.refl _).mul (prod_cg p _ _)).trans ?_)
    refine Cg.trans ?_ ((prod_cg p _ _).trans ((prod_cg p _ _).mul (.refl _))).symm
    exact (Cg.assoc _ _ _).symm
  · have hl : Cg p (ati (sumR p (prodR p z.1 (sumR p (prodR p v.1 u.2) (psh v.2 n))) (psh z.2 (n + k)))) fun i => mulS (ati z.1) (fun i => mulS (ati v.1) (ati u.2) i + ShN n (ati v.2) i) i + ShN (n + k) (ati z.2) i :=
      (sum_cg p (prodR p z.1 (sumR p (prodR p v.1 u.2) (psh v.2 n))) (psh z.2 (n + k))).trans (Cg.add ((prod_cg p z.1 (sumR p (prodR p v.1 u.2) (psh v.2 n))).trans ((Cg.refl (ati z.1)).mul ((sum_cg p (prodR p v.1 u.2) (psh v.2 n)).trans (Cg.add (prod_cg p v.1 u.2) (psh_cg p v.2 n))))) (psh_cg p z.2 (n + k)))
    have hr : Cg p (ati (sumR p (prodR p (prodR p z.1 v.1) u.2) (psh (sumR p (prodR p z.1 v.2) (psh z.2 k)) n))) fun i => mulS (mulS (ati z.1) (ati v.1)) (ati u.2) i + ShN n (fun j => mulS (ati z.1) (ati v.2) j + ShN k (ati z.2) j) i :=
      (sum_cg p (prodR p (prodR p z.1 v.1) u.2) (psh (sumR p (prodR p z.1 v.2) (psh z.2 k)) n)).trans (Cg.add ((prod_cg p (prodR p z.1 v.1) u.2).trans ((prod_cg p z.1 v.1).mul (.refl (ati u.2)))) ((psh_cg p (sumR p (prodR p z.1 v.2) (psh z.2 k)) n).trans (Cg.ShN n ((sum_cg p (prodR p z.1 v.2) (psh z.2 k)).trans (Cg.add (prod_cg p z.1 v.2) (psh_cg p z.2 k))))))
    have e : ∀ i, mulS (ati z.1) (fun i => mulS (ati v.1) (ati u.2) i + ShN n (ati v.2) i) i + ShN (n + k) (ati z.2) i = mulS (mulS (ati z.1) (ati v.1)) (ati u.2) i + ShN n (fun j => mulS (ati z.1) (ati v.2) j + ShN k (ati z.2) j) i := fun i => by
      rw [mulS_add, mulS_ShN, ShN_add, ShN_ShN, mulS_assoc, Int.add_assoc]
    have hlr := hl.trans ((Cg.fn e).trans hr.symm)
    unfold Jn
    dsimp only
    exact hlr
theorem wk_take {p : Int} {l : List Pg} {w w' : List Int} : ∀ n, (∀ i, i < n → ati w i = ati w' i) → wk p l w n = wk p l w' n
  | 0, _ => rfl
  | n + 1, h => by
    have ih := wk_take (p := p) (l := l) n fun i hi => h i (by omega)
    show (match l[(ati w n).toNat]? with | some x => _ | none => _) = (match l[(ati w' n).toNat]? with | some x => _ | none => _)
    rw [h n (by omega), ih]
theorem jn_one {p : Int} (hp : Pr p) {u : List Int × List Int} (hu : WkIn p u) : Jn p ([1], []) u 0 = u := by
  unfold Jn
  rw [prod_one hp hu.1 hu.2.1, prod_nil hp, psh_zero, sum_nil hp hu.2.2.1 hu.2.2.2]
theorem jn_none {p : Int} (hp : Pr p) {u : List Int × List Int} (hu : WkIn p u) (n : Nat) : Jn p u ([1], []) n = u := by
  have hp0 := hp.pos
  refine WkIn.eq hp0 (Jn.wi hp0 _ _ _) hu ?_ ?_
  · exact (prod_cg p _ _).trans (.fn fun k => mulS_one _ k)
  · refine (sum_cg p _ _).trans fun k => ?_
    show (ati (prodR p [1] u.2) k + ati (psh [] n) k) % p = _
    rw [show psh [] n = [] from rfl, ati_nil, Int.add_zero]
    exact ((prod_cg p _ _).trans (.fn fun k => mulS_one _ k)) k
theorem wk_app {p : Int} {l : List Pg} {v w : List Int} (hp : Pr p) (hb : Bk p l) (iv : In p v) (iw : In p w) : ∀ k, wk p l (v ++ w) (v.length + k) = Jn p (wk p l v v.length) (wk p l w k) v.length
  | 0 => by
    rw [Nat.add_zero, wk_take (w' := v) v.length fun i hi => by rw [ati_app, if_pos hi]]
    exact (jn_none hp (wk_in hp hb iv _) _).symm
  | k + 1 => by
    have hn := iw.at hp.pos k
    obtain ⟨hx, ok, _⟩ := hb.at hn.1 hn.2
    have e : ati (v ++ w) (v.length + k) = ati w k := by rw [ati_app, if_neg (by omega), Nat.add_sub_cancel_left]
    rw [← Nat.add_assoc, jn_step (x := pgAt l (ati w k)) (by rw [e]; exact hx), wk_app hp hb iv iw k, jn_step hx]
    exact jn_assoc hp _ _ _ _ _
/-- led by a word's beats -/
theorem wk_led {p : Int} {l : List Pg} {S : Nat → Int} {w : List Int} (hp : Pr p) (hb : Bk p l) (hS : ∀ n, 0 ≤ S n ∧ S n < p) : ∀ k, (∀ i, i < k → ati w i = Sk p l S i 0) → Cg p (ShN k (Sk p l S k)) fun n => mulS (ati (wk p l w k).1) S n + ati (wk p l w k).2 n
  | 0, _ => .fn fun n => by
    show ShN 0 S n = mulS (ati [1]) S n + ati [] n
    rw [ShN_zero, mulS_one, ati_nil, Int.add_zero]
  | k + 1, h => by
    have ih := wk_led hp hb hS k fun i hi => h i (by omega)
    have hk := Sk.bd (l := l) hp.pos hS k 0
    obtain ⟨hx, ok, _⟩ := hb.at hk.1 hk.2
    rw [jn_step (x := pgAt l (Sk p l S k 0)) (by rw [h k (by omega)]; exact hx)]
    -- x^k (x S') = x^k (m S + e)
    have h1 : Cg p (ShN 1 (Sk p l S (k + 1))) fun n => mulS (ati (mlt (pgAt l (Sk p l S k 0)))) (Sk p l S k) n + ati (pgAt l (Sk p l S k 0)).2.2 n := fun n => by
      cases n with
      | zero =>
        have e : mulS (ati (mlt (pgAt l (Sk p l S k 0)))) (Sk p l S k) 0 = (pgAt l (Sk p l S k 0)).1 * Sk p l S k 0 := by
          show 0 + ati (mlt _) 0 * Sk p l S k (0 - 0) = _
          rw [ok.mlt.2.2.2.1, Int.zero_add]
        show (0 : Int) % p = (mulS _ _ 0 + _) % p
        rw [e, Int.add_comm, ok.hd, Int.zero_emod]
      | succ n =>
        show Bt p (pgAt l (Sk p l S k 0)) (Sk p l S k) (n + 1 - 1) % p = (mulS _ _ (n + 1) + _) % p
        rw [mlt_mul ok, Nat.add_sub_cancel]
        unfold Bt
        rw [Int.emod_emod]
    have h2 : Cg p (ShN (k + 1) (Sk p l S (k + 1))) (ShN k fun n => mulS (ati (mlt (pgAt l (Sk p l S k 0)))) (Sk p l S k) n + ati (pgAt l (Sk p l S k 0)).2.2 n) := (Cg.fn fun n => ShN_ShN k 1 _ n).trans (h1.ShN k)
    refine h2.trans ?_
    refine Cg.trans (fun n => by rw [ShN_add, ← mulS_ShN]) (Cg.trans (Cg.add ((Cg.refl _).mul ih) (Cg.refl _)) ?_)
    refine Cg.trans ?_ (Cg.symm (Cg.add ((prod_cg p _ _).mul (.refl S)) ((sum_cg p _ _).trans (Cg.add (prod_cg p _ _) (psh_cg p _ _)))))
    refine .fn fun n => ?_
    dsimp only
    rw [mulS_add, mulS_assoc, Int.add_assoc]
theorem wk_one {p c : Int} {l : List Pg} (hp : Pr p) (hb : Bk p l) (c0 : 0 ≤ c) (c1 : c < p) : wk p l [c] 1 = (mlt (pgAt l c), (pgAt l c).2.2) := by
  obtain ⟨hx, ok, _⟩ := hb.at c0 c1
  obtain ⟨m1, m2, _⟩ := ok.mlt
  rw [wk_succ (w := [c]) (n := 0) (x := pgAt l c) hx]
  show (prodR p (mlt (pgAt l c)) [1], sumR p (prodR p (mlt (pgAt l c)) []) (psh (pgAt l c).2.2 0)) = _
  rw [prod_one hp m1 m2, prod_nil hp, psh_zero, sum_nil hp ok.ie ok.te]
theorem len_tI {w : List Int} {M : HM} : lenOf M (tI w) = some (w.length : Int) := by
  show some (((dI w).length : Nat) : Int) = _
  rw [List.length_map]
theorem no_nP {P : Prop} [Decidable P] (h : P) (z : (!decide P) = true) : False := by
  rw [decide_eq_true h] at z; cases z
theorem ne_two {a b c d : List Int} {M : HM} {Q : DK} (q : Q (.bl (!decide (a = c ∧ b = d))) M) : fNe (.tup [tI a, tI b]) (.tup [tI c, tI d]) M Q := by
  have ok : ∀ (T B : List Int), okD (.tup [tI T, tI B]) = true := fun T B => by
    unfold okD
    have h1 : isD (.tup [tI T, tI B]) = true := by
      show (isDs (dI T) && (isDs (dI B) && true)) = true
      rw [isDs_dI, isDs_dI]; rfl
    have h2 : (toPy (.tup [tI T, tI B])).depth ≤ 64 := by
      show max (PyData.depthAll (toPys (dI T)) + 1) (max (PyData.depthAll (toPys (dI B)) + 1) 0) + 1 ≤ 64
      rw [toPys_dI, toPys_dI, depth_ints, depth_ints]; decide
    rw [h1, decide_eq_true h2]; rfl
  refine .inl ⟨ok .., ok .., ?_⟩
  have e : eqD (rd M (.tup [tI a, tI b])) (rd M (.tup [tI c, tI d])) = decide (a = c ∧ b = d) := by
    show (PyData.eqvAll (toPys (dI a)) (toPys (dI c)) && (PyData.eqvAll (toPys (dI b)) (toPys (dI d)) && true)) = _
    rw [toPys_dI, toPys_dI, toPys_dI, toPys_dI, eqv_ints, eqv_ints]
    by_cases h2 : a = c <;> by_cases h3 : b = d <;> simp [h2, h3]
  rw [e]; exact q
end DL

set_option Elab.async false
set_option linter.all false
set_option maxRecDepth 100000
set_option maxHeartbeats 400000
namespace DL
open PySem PySem.Spec PyProof.Rows L2
open PySem.W (Frag)
variable [TB]
/-! ### what is told of a row -/
theorem beads_of {p : Int} {S : Nat → Int} {T U : List Int} {n : Int} {M : HM} {Q : DK} {E : XDK} (hp : Pr p) (r : RSe p S T U) (lT : T.length ≤ 5000) (lU : U.length ≤ 5000) (n0 : 0 ≤ n) (n1 : n ≤ 5000) (q : Q (tI ((List.range n.toNat).map S)) M) : sp_Row_beads [rowD p T U, .int n] M Q E := by
  refine ⟨p, n, T, U, rfl, hp, r.n.iT, r.n.iB, r.n.b0, lT, lU, n0, n1, fun v lv hv => ?_⟩
  have e : v = (List.range n.toNat).map S := ext_len (by simp [lv]) fun k hk => by
    rw [r.s.beads hp r.n.iB r.n.u0 hv hk, ati_range, if_pos (by omega)]
  rw [e]; exact q
theorem bead_of {p : Int} {S : Nat → Int} {T U : List Int} {n : Int} {M : HM} {Q : DK} {E : XDK} (hp : Pr p) (r : RSe p S T U) (lT : T.length ≤ 100) (lU : U.length ≤ 100) (n0 : 0 ≤ n) (q : Q (.int (S n.toNat)) M) : sp_Row_bead [rowD p T U, .int n] M Q E := by
  refine ⟨p, n, T, U, rfl, hp, r.n.iT, r.n.iB, r.n.b0, lT, lU, n0, fun S2 hS2 => ?_⟩
  rw [hS2.uniq hp r.n.iB r.n.u0 r.s n.toNat]; exact q
/-- Row(p, a): a finite row -/
theorem mk_fin {M1 : HM} {Q : DK} {E : XDK} {p : Int} {A : List Int} (hp : Pr p) (iA : In p A) (tA : Tr A) (lA : A.length ≤ 5000) (q : ∀ T U, RSe p (ati A) T U → T.length ≤ A.length → U.length ≤ 1 → Q (rowD p T U) M1) :
    ∀ a, M1 a = none → sp_Row___init__ [.ref a, .int p, tI A, .tup [.int 1]] (mup M1 a (.ins "Row" [])) (fun v M2 => v = .non ∧ RetK Q (.ref a) M2) E :=
  mk_rowS (B := [1]) hp iA tA (one11 hp).1.1 (one11 hp).1.2 (by decide) lA (by decide) ⟨fun n => iA.at hp.pos n, fun n => by rw [mulS_one]⟩ q
theorem tkl_drop {p : Int} {l : List Pg} {S : Nat → Int} (b m : Nat) : (tkl p l S (b + m)).drop b = tkl p l (Sk p l S b) m := by
  apply List.ext_getElem
  · simp [tkl]
  · intro i h1 h2
    simp only [tkl, List.getElem_drop, List.getElem_map, List.getElem_range, Sk.add]
theorem tkl_one {p : Int} {l : List Pg} {S : Nat → Int} : tkl p l S 1 = [S 0] := rfl
theorem tkl_at {p : Int} {l : List Pg} {S : Nat → Int} {n k : Nat} (h : k < n) : ati (tkl p l S n) k = Sk p l S k 0 := by rw [tkl, ati_range, if_pos h]
/-- a beat, shifted by one -/
theorem Bt.sh {p : Int} {x : Pg} {S : Nat → Int} (ok : PgOk p (S 0) x) : Cg p (ShN 1 (Bt p x S)) fun n => mulS (ati (mlt x)) S n + ati x.2.2 n := fun n => by
  cases n with
  | zero =>
    have e : mulS (ati (mlt x)) S 0 = x.1 * S 0 := by
      show 0 + ati (mlt _) 0 * S (0 - 0) = _
      rw [ok.mlt.2.2.2.1, Int.zero_add]
    show (0 : Int) % p = (mulS _ _ 0 + _) % p
    rw [e, Int.add_comm, ok.hd, Int.zero_emod]
  | succ n =>
    show Bt p x S (n + 1 - 1) % p = (mulS _ _ (n + 1) + _) % p
    rw [mlt_mul ok, Nat.add_sub_cancel]
    unfold Bt
    rw [Int.emod_emod]
/-- what comes back of a beat -/
theorem Bt.back {p : Int} {x : Pg} {S V : Nat → Int} (ok : PgOk p (S 0) x) (hV : Cg p (mulS (ati (mlt x)) V) (ati [1])) : Cg p (mulS (fun n => (ShN 1 (Bt p x S) n + -1 * ati x.2.2 n) % p) V) S := by
  have h1 : Cg p (fun n => (ShN 1 (Bt p x S) n + -1 * ati x.2.2 n) % p) (mulS (ati (mlt x)) S) := fun n => by
    show ((ShN 1 (Bt p x S) n + -1 * ati x.2.2 n) % p) % p = _
    rw [Int.emod_emod, Int.add_emod, Bt.sh ok n, ← Int.add_emod]
    congr 1
    dsimp only
    omega
  refine (h1.mul (.refl V)).trans ?_
  -- (m S) V = (m V) S
  refine (Cg.assoc _ _ _).trans (((Cg.refl _).mul (Cg.comm S V)).trans ((Cg.assoc _ _ _).symm.trans ?_))
  exact (hV.mul (.refl S)).trans (.fn fun n => mulS_one _ n)
/-- two rows of one tick, led on, are apart by the multiplier times what parts them -/
theorem Bt.apart {p : Int} {x : Pg} {S S2 : Nat → Int} (ok : PgOk p (S 0) x) (h0 : S2 0 = S 0) (n : Nat) : (Bt p x S2 n + -1 * Bt p x S n) % p = mulS (ati (mlt x)) (fun k => (S2 k + -1 * S k) % p) (n + 1) % p := by
  have e : mulS (ati (mlt x)) (fun k => (S2 k + -1 * S k) % p) (n + 1) % p = mulS (ati (mlt x)) (fun k => S2 k + -1 * S k) (n + 1) % p := (Cg.refl _).mul (fun k => Int.emod_emod _ _) (n + 1)
  rw [e]
  have ok2 : PgOk p (S2 0) x := by rw [h0]; exact ok
  rw [mlt_mul ok (fun k => S2 k + -1 * S k) n]
  unfold Bt
  rw [Int.add_emod, Int.emod_emod, Int.mul_emod, Int.emod_emod, ← Int.mul_emod, ← Int.add_emod]
  congr 1
  have e1 : ∀ a b : Int, a * (-1 * b) = -1 * (a * b) := fun a b => by rw [← Int.mul_assoc, Int.mul_comm a (-1), Int.mul_assoc]
  rw [Int.mul_add, Int.mul_add, Int.mul_add, Int.mul_add, e1, e1]
  omega
end DL

set_option Elab.async false
set_option linter.all false
set_option maxRecDepth 100000
set_option maxHeartbeats 400000
namespace DL
open PySem PySem.Spec PyProof.Rows L2
open PySem.W (Frag)
variable [TB]
/-! ### ticks hang on as many first beads -/
theorem eq_mod {p a b : Int} (ha : 0 ≤ a ∧ a < p) (hb : 0 ≤ b ∧ b < p) (h : a % p = b % p) : a = b := by rwa [Int.emod_eq_of_lt ha.1 ha.2, Int.emod_eq_of_lt hb.1 hb.2] at h
theorem Bt.ag {p : Int} {x : Pg} {S S' : Nat → Int} {n : Nat} (h : ∀ k, k < n + 1 → S k = S' k) (k : Nat) (hk : k < n) : Bt p x S k = Bt p x S' k := by
  unfold Bt
  rw [h k (by omega), h (k + 1) (by omega)]
theorem Bt.un {p c : Int} {x : Pg} {S S' : Nat → Int} (hp : Pr p) (ok : PgOk p c x) (b : ∀ k, 0 ≤ S k ∧ S k < p) (b' : ∀ k, 0 ≤ S' k ∧ S' k < p) {n : Nat} (h : S n = S' n) (hu : S (n + 1) ≠ S' (n + 1)) : Bt p x S n ≠ Bt p x S' n := by
  intro e
  unfold Bt at e
  rw [h] at e
  obtain ⟨i, _, _, hi⟩ := inv_of hp (show 0 ≤ x.1 by have := ok.s0; omega) ok.s1 (by have := ok.s0; omega)
  apply hu
  refine eq_mod (b _) (b' _) (undo_mod hi ?_)
  have k := mod_sub.mp e
  refine mod_sub.mpr ?_
  rw [← k]
  congr 1
  omega
/-- beads alike up to n: so are the ticks, and the rows behind -/
theorem Sk.ag {p : Int} {l : List Pg} {S S' : Nat → Int} {n : Nat} (h : ∀ k, k < n → S k = S' k) : ∀ j, j ≤ n → ∀ k, k < n - j → Sk p l S j k = Sk p l S' j k
  | 0, _, k, hk => h k hk
  | j + 1, hj, k, hk => by
    have ih := Sk.ag (p := p) (l := l) h j (by omega)
    show Bt p (pgAt l (Sk p l S j 0)) (Sk p l S j) k = Bt p (pgAt l (Sk p l S' j 0)) (Sk p l S' j) k
    rw [ih 0 (by omega)]
    exact Bt.ag (n := n - j - 1) (fun k hk => ih k (by omega)) k (by omega)
theorem tkl_ag {p : Int} {l : List Pg} {S S' : Nat → Int} {n : Nat} (h : ∀ k, k < n → S k = S' k) : tkl p l S n = tkl p l S' n := by
  unfold tkl
  refine List.map_congr_left fun k hk => ?_
  have hk := List.mem_range.mp hk
  exact Sk.ag h k (by omega) 0 (by omega)
/-- the first unlike bead stays the first unlike one -/
theorem Sk.un {p : Int} {l : List Pg} {S S' : Nat → Int} {n : Nat} (hp : Pr p) (hb : Bk p l) (b : ∀ k, 0 ≤ S k ∧ S k < p) (b' : ∀ k, 0 ≤ S' k ∧ S' k < p) (h : ∀ k, k < n → S k = S' k) (hu : S n ≠ S' n) : ∀ j, j ≤ n → Sk p l S j (n - j) ≠ Sk p l S' j (n - j)
  | 0, _ => hu
  | j + 1, hj => by
    have ih := Sk.un hp hb b b' h hu j (by omega)
    have a := Sk.ag (p := p) (l := l) h j (by omega)
    have hc := Sk.bd (l := l) hp.pos b j 0
    obtain ⟨_, ok, _⟩ := hb.at hc.1 hc.2
    show Bt p (pgAt l (Sk p l S j 0)) (Sk p l S j) (n - (j + 1)) ≠ Bt p (pgAt l (Sk p l S' j 0)) (Sk p l S' j) (n - (j + 1))
    rw [← a 0 (by omega)]
    have e : n - (j + 1) + 1 = n - j := by omega
    exact Bt.un hp ok (Sk.bd hp.pos b j) (Sk.bd hp.pos b' j) (a _ (by omega)) (by rw [e]; exact ih)
/-- the first unlike ticks stand where the first unlike beads do -/
theorem tkl_un {p : Int} {l : List Pg} {S S' : Nat → Int} {n : Nat} (hp : Pr p) (hb : Bk p l) (b : ∀ k, 0 ≤ S k ∧ S k < p) (b' : ∀ k, 0 ≤ S' k ∧ S' k < p) (h : ∀ k, k < n → S k = S' k) (hu : S n ≠ S' n) :
    (∀ k, k < n → Sk p l S k 0 = Sk p l S' k 0) ∧ Sk p l S n 0 ≠ Sk p l S' n 0 := by
  refine ⟨fun k hk => Sk.ag h k (by omega) 0 (by omega), ?_⟩
  have := Sk.un hp hb b b' h hu n (Nat.le_refl _)
  rwa [Nat.sub_self] at this
/-- what begins with a word -/
theorem begin_of {p : Int} {l : List Pg} {S V : Nat → Int} {w : List Int} (hp : Pr p) (hb : Bk p l) (iw : In p w) (b : ∀ k, 0 ≤ S k ∧ S k < p) (bV : ∀ k, 0 ≤ V k ∧ V k < p) (hw : ∀ i, i < w.length → ati w i = Sk p l S i 0)
    (hV : Cg p (mulS (ati (wk p l w w.length).1) V) fun n => -1 * ati (wk p l w w.length).2 n) : ∀ k, k < w.length → V k = S k := by
  obtain ⟨cap, hc⟩ := cap_ex l
  obtain ⟨h1, _, _, _, _, _, h7⟩ := wk_ok hp hb iw hc w.length
  have h0 := h1.at hp.pos 0
  obtain ⟨i, _, _, hi⟩ := inv_of hp h0.1 h0.2 h7
  have e := wk_led hp hb b w.length hw
  have c : CgN p w.length V S := CgN.cancel (b := ati (wk p l w w.length).1) hi fun n hn => by
    have e1 := e n
    have e2 : ShN w.length (Sk p l S w.length) n = 0 := by unfold ShN; rw [if_pos hn]
    rw [e2] at e1
    rw [hV n]
    refine (mod_sub.mpr ?_).symm
    have k := mod_sub.mp e1.symm
    dsimp only at k ⊢
    have e3 : mulS (ati (wk p l w w.length).1) S n - -1 * ati (wk p l w w.length).2 n = mulS (ati (wk p l w w.length).1) S n + ati (wk p l w w.length).2 n - 0 := by omega
    rw [e3]
    exact k
  exact fun k hk => eq_mod (bV k) (b k) (c k hk)
/-- the law's own first unlike place -/
theorem due_of {S S' : Nat → Int} {s1 s2 : List Int} {d : D} {b N : Nat} (h1 : ∀ k, k < N → ati s1 k = S k) (h2 : ∀ k, k < N → ati s2 k = S' k) (hb : b ≤ N) (h : Unl S S' d b) :
    atI ((((List.range N).filter fun k => !decide (ati s1 k = ati s2 k)).map fun k : Nat => D.int (k : Int)) ++ [.non]) 0 = some d := by
  rcases h with ⟨rfl, h⟩ | ⟨n, rfl, hn, hx, hlt⟩
  · rw [filt_none N fun k hk => by simp [h1 k hk, h2 k hk, h k]]
    rfl
  · obtain ⟨r, e⟩ := filt_head (f := fun k => !decide (ati s1 k = ati s2 k)) N n (by omega) (by simp [h1 n (by omega), h2 n (by omega), hn]) (fun k hk => by simp [h1 k (by omega), h2 k (by omega), hx k hk])
    rw [e, List.map_cons, List.cons_append, atI_zero]
theorem Unl.symm {S S' : Nat → Int} {d : D} {b : Nat} (h : Unl S S' d b) : Unl S' S d b := by
  rcases h with ⟨rfl, h⟩ | ⟨n, rfl, hn, hx, hlt⟩
  · exact .inl ⟨rfl, fun n => (h n).symm⟩
  · exact .inr ⟨n, rfl, fun e => hn e.symm, fun k hk => (hx k hk).symm, hlt⟩
theorem Unl.same {S S' : Nat → Int} {d d' : D} {b b' : Nat} (h : Unl S S' d b) (h' : Unl S S' d' b') : d = d' := by
  rcases h with ⟨rfl, h⟩ | ⟨n, rfl, hn, hx, hlt⟩ <;> rcases h' with ⟨rfl, h'⟩ | ⟨m, rfl, hm, hy, _⟩
  · rfl
  · exact absurd (h m) hm
  · exact absurd (h' n) hn
  · rcases Nat.lt_trichotomy n m with z | z | z
    · exact absurd (hy n z) hn
    · rw [z]
    · exact absurd (hx m z) hm
theorem Unl.of {S S' : Nat → Int} {n b : Nat} (hu : S n ≠ S' n) (h : ∀ k, k < n → S k = S' k) {d : D} (hd : Unl S S' d b) : d = .int (n : Int) := by
  rcases hd with ⟨rfl, h'⟩ | ⟨m, rfl, hm, hy, _⟩
  · exact absurd (h' n) hu
  · rcases Nat.lt_trichotomy n m with z | z | z
    · exact absurd (hy n z) hu
    · rw [z]
    · exact absurd (h m z) hm
theorem ne_non {M : HM} {Q : DK} (q : Q (.bl false) M) : fNe .non .non M Q := .inl ⟨rfl, rfl, q⟩
def sp_ticks_of : DSp := fun xs M Q _ => ∃ p l bs cap, xs = [bookD p l, tI bs] ∧ Pr p ∧ Bk p l ∧ In p bs ∧ (∀ x ∈ l, x.2.2.length ≤ cap) ∧ cap ≤ 500 ∧ bs.length ≤ 900 ∧ Q (tI (tkl p l (ati bs) bs.length)) M
def b_ticks_of : DTS := (dRet (dCall sp_ticks (dCons (dVar 0) (dCons (dMake "Row" sp_Row___init__ [.tup [.int 1]] (dCons (dMeth "Book" "prime" sp_Book_prime [] (dVar 0) dNil) (dCons (dCall sp_trimmed (dCons (dVar 1) dNil)) dNil))) (dCons (dCB fLen (dCons (dVar 1) dNil)) dNil)))))
theorem hd_ticks_of : ∀ (xs : List D) (M : HM) (Q : DK) (E : XDK), sp_ticks_of xs M Q E → xs.length = (["book", "beads"] : List Str).length ∧ b_ticks_of (ends Q E) (startD (["book", "beads"] : List Str).length xs) M := by
  rintro xs M Q E ⟨p, l, bs, cap, rfl, hp, hb, ib, hc, hcap, lb, q⟩
  refine ⟨rfl, ?_⟩
  simp only [startD, List.map_cons, List.map_nil, List.length_cons, List.length_nil, List.replicate, List.cons_append, List.nil_append, Nat.zero_add, Nat.reduceAdd, Nat.reduceSub]
  simp only [b_ticks_of, dNext, dSeq, dDrop, dRet, dRetN, dIf, dCall, dCB, dCBK, dCons, dNil, dVar, dC, dOp, dB, dTru, dAndT, dOrT, dNotT, dAndV, dOrV, dNotV, dIfE, dChain, dTup, dLst, dSl, dPart, dNoPart, dgName, dgTup, dgCons, dgNil, dgSub, dAsg, dPar, dAug, dNeg, ends, fLt, fLe, fGt, fGe, fSub, fMod, fDiv, fPow, iAddI, iSubI, ii, fInt, fMax2, fMin2, fLen, fTuple, fList, List.length_cons, List.length_nil, startD, List.replicate, List.cons_append, List.nil_append, List.append_nil, Nat.zero_add, Nat.reduceAdd, Nat.reduceSub, List.getElem?_cons_succ, List.getElem?_cons_zero, List.set_cons_zero, List.set_cons_succ, wipeD, dFld, dFldSet, dMeth, dMake, dIsO, dFmt, dJs, dStep, dRaise0, iDivI, iModI, iMulI, dRaiseX, dMeth2, dIsi2]
  have lt := trim_len bs
  refine ⟨_, ob_book, nkb_prime, _, _, rfl, tI bs, bs, rfl, rfl, ?_⟩
  refine mk_fin hp ib.trim (trim_trim _) (by omega) fun T U r lT lU => ?_
  refine ⟨_, len_tI, p, l, T, U, _, cap, (bs.length : Int), rfl, hp, hb, r, hc, by omega, by omega, by omega, by omega, ?_⟩
  rw [Int.toNat_natCast, show ati (trim bs) = ati bs from funext fun k => ati_trim ..]
  exact .here q
def sp_beginning : DSp := fun xs M Q _ => ∃ p l w cap, xs = [bookD p l, tI w] ∧ Pr p ∧ Bk p l ∧ In p w ∧ (∀ x ∈ l, x.2.2.length ≤ cap) ∧ 2 * w.length + cap + 2 ≤ 1000 ∧
  ∀ V : Nat → Int, (∀ k, 0 ≤ V k ∧ V k < p) → Cg p (mulS (ati (wk p l w w.length).1) V) (fun n => -1 * ati (wk p l w w.length).2 n) → Q (tI ((List.range w.length).map V)) M
def b_beginning : DTS := (dSeq (dAsg (dMeth "Book" "prime" sp_Book_prime [] (dVar 0) dNil) (dgName 2)) (dSeq (dAsg (dCall sp_work (dCons (dVar 0) (dCons (dVar 1) dNil))) (dgTup 2 (dgCons (dgName 3) (dgCons (dgName 4) dgNil)))) (dRet (dMeth "Row" "beads" sp_Row_beads [] (dMake "Row" sp_Row___init__ [] (dCons (dVar 2) (dCons (dCall sp_taken (dCons (dVar 2) (dCons (dTup dNil) (dCons (dVar 4) dNil)))) (dCons (dVar 3) dNil)))) (dCons (dCB fLen (dCons (dVar 1) dNil)) dNil)))))
theorem hd_beginning : ∀ (xs : List D) (M : HM) (Q : DK) (E : XDK), sp_beginning xs M Q E → xs.length = (["book", "word"] : List Str).length ∧ b_beginning (ends Q E) (startD (["book", "word", "prime", "taken_times", "more"] : List Str).length xs) M := by
  rintro xs M Q E ⟨p, l, w, cap, rfl, hp, hb, iw, hc, lw, q⟩
  refine ⟨rfl, ?_⟩
  have hp0 := hp.pos
  simp only [startD, List.map_cons, List.map_nil, List.length_cons, List.length_nil, List.replicate, List.cons_append, List.nil_append, Nat.zero_add, Nat.reduceAdd, Nat.reduceSub]
  simp only [b_beginning, dNext, dSeq, dDrop, dRet, dRetN, dIf, dCall, dCB, dCBK, dCons, dNil, dVar, dC, dOp, dB, dTru, dAndT, dOrT, dNotT, dAndV, dOrV, dNotV, dIfE, dChain, dTup, dLst, dSl, dPart, dNoPart, dgName, dgTup, dgCons, dgNil, dgSub, dAsg, dPar, dAug, dNeg, ends, fLt, fLe, fGt, fGe, fSub, fMod, fDiv, fPow, iAddI, iSubI, ii, fInt, fMax2, fMin2, fLen, fTuple, fList, List.length_cons, List.length_nil, startD, List.replicate, List.cons_append, List.nil_append, List.append_nil, Nat.zero_add, Nat.reduceAdd, Nat.reduceSub, List.getElem?_cons_succ, List.getElem?_cons_zero, List.set_cons_zero, List.set_cons_succ, wipeD, dFld, dFldSet, dMeth, dMake, dIsO, dFmt, dJs, dStep, dRaise0, iDivI, iModI, iMulI, dRaiseX, dMeth2, dIsi2]
  obtain ⟨h1, h2, h3, h4, h5, h6, h7⟩ := wk_ok hp hb iw hc w.length
  refine ⟨_, ob_book, nkb_prime, _, _, rfl, p, l, w, cap, rfl, hp, hb, iw, hc, lw, _, rfl, rfl, rfl, by decide, ?_⟩
  refine ⟨p, [], (wk p l w w.length).2, rfl, hp0, by decide, by omega, ?_⟩
  have iz : In p (trim (zipR (max ([] : List Int).length (wk p l w w.length).2.length) fun k => (ati [] k - ati (wk p l w w.length).2 k) % p)) := (In.zip hp0).trim
  have tz : Tr (trim (zipR (max ([] : List Int).length (wk p l w w.length).2.length) fun k => (ati [] k - ati (wk p l w w.length).2 k) % p)) := trim_trim _
  have lz : (trim (zipR (max ([] : List Int).length (wk p l w w.length).2.length) fun k => (ati [] k - ati (wk p l w w.length).2 k) % p)).length ≤ (wk p l w w.length).2.length := Nat.le_trans len_zip (by simp)
  have az : ∀ n, ati (trim (zipR (max ([] : List Int).length (wk p l w w.length).2.length) fun k => (ati [] k - ati (wk p l w w.length).2 k) % p)) n = (ati [] n - ati (wk p l w w.length).2 n) % p := fun n => sub_at n
  generalize trim (zipR (max ([] : List Int).length (wk p l w w.length).2.length) fun k => (ati [] k - ati (wk p l w w.length).2 k) % p) = A at iz tz lz az ⊢
  obtain ⟨V, hV⟩ := ser_ex (a := A) hp h1 h7
  refine mk_rowS hp iz tz h1 h2 h7 (by omega) (by omega) hV fun T U r lT lU => ?_
  refine ⟨_, ob_row, nk_beads, _, len_tI, beads_of hp r (by omega) (by omega) (by omega) (by omega) ?_⟩
  rw [Int.toNat_natCast]
  refine .here (q V hV.bd (hV.eq.trans fun n => ?_))
  rw [az, ati_nil, Int.emod_emod]
  congr 1
  omega
def sp__law_first_unlike : DSp := fun xs M Q _ => ∃ a b, xs = [tI a, tI b] ∧ a.length = b.length ∧ a.length ≤ 5000 ∧ ∀ d, atI ((((List.range a.length).filter fun k => !decide (ati a k = ati b k)).map fun k : Nat => D.int (k : Int)) ++ [.non]) 0 = some d → Q d M
def b__law_first_unlike : DTS := (dRet (dOp fIx (dOp fAdd (dComp (dIRng1 (dCons (dCB fLen (dCons (dVar 0) dNil)) dNil)) (tgN 2) (dB (dOp fNe (dOp fIx (dVar 0) (dVar 2)) (dOp fIx (dVar 1) (dVar 2)))) (dVar 2) [2]) (dLst (dCons (dC .non) dNil))) (dC (.int 0))))
theorem hd__law_first_unlike : ∀ (xs : List D) (M : HM) (Q : DK) (E : XDK), sp__law_first_unlike xs M Q E → xs.length = (["_law_one", "_law_other"] : List Str).length ∧ b__law_first_unlike (ends Q E) (startD (["_law_one", "_law_other", "_law_k"] : List Str).length xs) M := by
  rintro xs M Q E ⟨a, b, rfl, hab, la, q⟩
  refine ⟨rfl, ?_⟩
  simp only [startD, List.map_cons, List.map_nil, List.length_cons, List.length_nil, List.replicate, List.cons_append, List.nil_append, Nat.zero_add, Nat.reduceAdd, Nat.reduceSub]
  simp only [b__law_first_unlike, dNext, dSeq, dDrop, dRet, dRetN, dIf, dCall, dCB, dCBK, dCons, dNil, dVar, dC, dOp, dB, dTru, dAndT, dOrT, dNotT, dAndV, dOrV, dNotV, dIfE, dChain, dTup, dLst, dSl, dPart, dNoPart, dgName, dgTup, dgCons, dgNil, dgSub, dAsg, dPar, dAug, dNeg, ends, fLt, fLe, fGt, fGe, fSub, fMod, fDiv, fPow, iAddI, iSubI, ii, fInt, fMax2, fMin2, fLen, fTuple, fList, List.length_cons, List.length_nil, startD, List.replicate, List.cons_append, List.nil_append, List.append_nil, Nat.zero_add, Nat.reduceAdd, Nat.reduceSub, List.getElem?_cons_succ, List.getElem?_cons_zero, List.set_cons_zero, List.set_cons_succ, wipeD, dFld, dFldSet, dMeth, dMake, dIsO, dFmt, dJs, dStep, dRaise0, iDivI, iModI, iMulI, dRaiseX, dMeth2, dIsi2]
  refine comp_rng_if (n := (a.length : Int)) (g := fun k => .int k) (p := fun k => !decide (ati a k = ati b k)) (fun Q' q' => ?_) (by omega) (by omega) (fun k hk => ⟨fun Q' q' => ?_, fun _ Q' q' => ?_⟩) ?_
  · simp only [dNext, dSeq, dDrop, dRet, dRetN, dIf, dCall, dCB, dCBK, dCons, dNil, dVar, dC, dOp, dB, dTru, dAndT, dOrT, dNotT, dAndV, dOrV, dNotV, dIfE, dChain, dTup, dLst, dSl, dPart, dNoPart, dgName, dgTup, dgCons, dgNil, dgSub, dAsg, dPar, dAug, dNeg, ends, fLt, fLe, fGt, fGe, fSub, fMod, fDiv, fPow, iAddI, iSubI, ii, fInt, fMax2, fMin2, fLen, fTuple, fList, List.length_cons, List.length_nil, startD, List.replicate, List.cons_append, List.nil_append, List.append_nil, Nat.zero_add, Nat.reduceAdd, Nat.reduceSub, List.getElem?_cons_succ, List.getElem?_cons_zero, List.set_cons_zero, List.set_cons_succ, wipeD, dFld, dFldSet, dMeth, dMake, dIsO, dFmt, dJs, dStep, dRaise0, iDivI, iModI, iMulI, dRaiseX, dMeth2, dIsi2]
    exact ⟨_, len_tI, q'⟩
  · simp only [dNext, dSeq, dDrop, dRet, dRetN, dIf, dCall, dCB, dCBK, dCons, dNil, dVar, dC, dOp, dB, dTru, dAndT, dOrT, dNotT, dAndV, dOrV, dNotV, dIfE, dChain, dTup, dLst, dSl, dPart, dNoPart, dgName, dgTup, dgCons, dgNil, dgSub, dAsg, dPar, dAug, dNeg, ends, fLt, fLe, fGt, fGe, fSub, fMod, fDiv, fPow, iAddI, iSubI, ii, fInt, fMax2, fMin2, fLen, fTuple, fList, List.length_cons, List.length_nil, startD, List.replicate, List.cons_append, List.nil_append, List.append_nil, Nat.zero_add, Nat.reduceAdd, Nat.reduceSub, List.getElem?_cons_succ, List.getElem?_cons_zero, List.set_cons_zero, List.set_cons_succ, wipeD, dFld, dFldSet, dMeth, dMake, dIsO, dFmt, dJs, dStep, dRaise0, iDivI, iModI, iMulI, dRaiseX, dMeth2, dIsi2]
    refine ⟨.int (ati a k), by rw [ix_tup, atI_dI (by omega) (by omega), Int.toNat_natCast], .int (ati b k), by rw [ix_tup, atI_dI (by omega) (by omega), Int.toNat_natCast], ne_int q'⟩
  · simpa only [dNext, dSeq, dDrop, dRet, dRetN, dIf, dCall, dCB, dCBK, dCons, dNil, dVar, dC, dOp, dB, dTru, dAndT, dOrT, dNotT, dAndV, dOrV, dNotV, dIfE, dChain, dTup, dLst, dSl, dPart, dNoPart, dgName, dgTup, dgCons, dgNil, dgSub, dAsg, dPar, dAug, dNeg, ends, fLt, fLe, fGt, fGe, fSub, fMod, fDiv, fPow, iAddI, iSubI, ii, fInt, fMax2, fMin2, fLen, fTuple, fList, List.length_cons, List.length_nil, startD, List.replicate, List.cons_append, List.nil_append, List.append_nil, Nat.zero_add, Nat.reduceAdd, Nat.reduceSub, List.getElem?_cons_succ, List.getElem?_cons_zero, List.set_cons_zero, List.set_cons_succ, wipeD, dFld, dFldSet, dMeth, dMake, dIsO, dFmt, dJs, dStep, dRaise0, iDivI, iModI, iMulI, dRaiseX, dMeth2, dIsi2] using q'
  rw [Int.toNat_natCast]
  obtain ⟨x, hx⟩ : ∃ x, atI ((((List.range a.length).filter fun k => !decide (ati a k = ati b k)).map fun k : Nat => D.int (k : Int)) ++ [.non]) 0 = some x := by
    cases ((List.range a.length).filter fun k => !decide (ati a k = ati b k)).map fun k : Nat => D.int (k : Int) with
    | nil => exact ⟨_, atI_zero⟩
    | cons y r => exact ⟨_, atI_zero⟩
  refine ⟨by decide, fAdd_lst ?_ ⟨x, by rw [ix_lst]; exact hx, .here (q x hx)⟩⟩
  have := List.length_filter_le (fun k => !decide (ati a k = ati b k)) (List.range a.length)
  rw [List.length_map, List.length_singleton]
  rw [List.length_range] at this
  omega
end DL

set_option Elab.async false
set_option linter.all false
set_option maxRecDepth 100000
set_option maxHeartbeats 400000
namespace DL
open PySem PySem.Spec PyProof.Rows L2
open PySem.W (Frag)
variable [TB]
/-! ### the law's own product, bead by bead -/
theorem zip_prod {p : Int} {a b : List Int} : trim (zipR (a.length + b.length) fun n => cv a b n % p) = prodR p a b := Tr.ext (trim_trim _) (trim_trim _) fun n => by
  rw [ati_prodR, ati_trim, ati_zipR]
  by_cases h : n < a.length + b.length
  · rw [if_pos h]
  · rw [if_neg h, cv_ge _ _ _ (by omega), Int.zero_emod]
def b__law_times : DTS := (dSeq (dAsg (dOp fMulM (dLst (dCons (dC (.int 0)) dNil)) (dOp fAdd (dCB fLen (dCons (dVar 1) dNil)) (dCB fLen (dCons (dVar 2) dNil)))) (dgName 3)) (dSeq (dFor (dIRng1 (dCons (dCB fLen (dCons (dVar 1) dNil)) dNil)) (dgName 4) (dFor (dIRng1 (dCons (dOp fMul (dCB fLen (dCons (dVar 2) dNil)) (dCB fInt (dCons (dOp fNe (dOp fIx (dVar 1) (dVar 4)) (dC (.int 0))) dNil))) dNil)) (dgName 5) (dAsg (dOp fAdd (dOp fIx (dVar 3) (dOp fAdd (dVar 4) (dVar 5))) (dOp fMul (dOp fIx (dVar 1) (dVar 4)) (dOp fIx (dVar 2) (dVar 5)))) (dgSub (dVar 3) (dOp fAdd (dVar 4) (dVar 5)))))) (dRet (dCall sp__law_cut (dCons (dComp (dISeq (dFrz (dVar 3))) (tgN 6) dYes (dOp fMod (dCB fInt (dCons (dVar 6) dNil)) (dVar 0)) [6]) dNil)))))
theorem hd__law_times : ∀ (xs : List D) (M : HM) (Q : DK) (E : XDK), sp__law_times xs M Q E → xs.length = (["_law_p", "_law_one", "_law_other"] : List Str).length ∧ b__law_times (ends Q E) (startD (["_law_p", "_law_one", "_law_other", "_law_found", "_law_k", "_law_j", "_law_bead"] : List Str).length xs) M := by
  rintro xs M Q E ⟨p, a, b, rfl, hp, ha, hb, hxa, hxb, q⟩
  refine ⟨rfl, ?_⟩
  simp only [startD, List.map_cons, List.map_nil, List.length_cons, List.length_nil, List.replicate, List.cons_append, List.nil_append, Nat.zero_add, Nat.reduceAdd, Nat.reduceSub]
  simp only [b__law_times, dNext, dSeq, dDrop, dRet, dRetN, dIf, dCall, dCB, dCBK, dCons, dNil, dVar, dC, dOp, dB, dTru, dAndT, dOrT, dNotT, dAndV, dOrV, dNotV, dIfE, dChain, dTup, dLst, dSl, dPart, dNoPart, dgName, dgTup, dgCons, dgNil, dgSub, dAsg, dPar, dAug, dNeg, ends, fLt, fLe, fGt, fGe, fSub, fMod, fDiv, fPow, iAddI, iSubI, ii, fInt, fMax2, fMin2, fLen, fTuple, fList, List.length_cons, List.length_nil, startD, List.replicate, List.cons_append, List.nil_append, List.append_nil, Nat.zero_add, Nat.reduceAdd, Nat.reduceSub, List.getElem?_cons_succ, List.getElem?_cons_zero, List.set_cons_zero, List.set_cons_succ, wipeD, dFld, dFldSet, dMeth, dMake, dIsO, dFmt, dJs, dStep, dRaise0, iDivI, iModI, iMulI, dRaiseX, dMeth2, dIsi2, dFor, dIRng1]
  have lda : ((dI a).length : Int) = a.length := by simp
  have ldb : ((dI b).length : Int) = b.length := by simp
  refine ⟨by decide, _, rfl, _, rfl, fAdd_int ?_⟩
  rw [lda, ldb]
  show (_ ∧ _ ∧ _) ∧ _
  have hN : ((a.length : Int) + (b.length : Int)).toNat = a.length + b.length := by omega
  refine ⟨⟨by omega, by omega, by rw [hN]; simp; omega⟩, fun f hf => ?_⟩
  have e0 : repD ((a.length : Int) + (b.length : Int)) [D.int 0] = dI (zipR (a.length + b.length) fun n => sm (fun i => ati a i * sh b n i) 0) := by
    have e1 : (a.length : Int) + (b.length : Int) = ((a.length + b.length : Nat) : Int) := by omega
    rw [e1, rep_zero]
    congr 1
    unfold zipR
    apply List.ext_getElem (by simp)
    intro i h1 h2
    simp [sm]
  rw [e0]
  refine ⟨_, rfl, ⟨by omega, by omega⟩, ?_⟩
  refine forL_inv (fun i σ M' => ∃ o4 o5 o6, σ = [some (.int p), some (tI a), some (tI b), some (.ref f), o4, o5, o6] ∧ M' = mup M f (.lst (dI (zipR (a.length + b.length) fun n => sm (fun i => ati a i * sh b n i) i)))) _ 0 ?_ ?_ ⟨_, _, _, rfl, rfl⟩
  · rintro i x σ M' hx ⟨o4, o5, o6, rfl, rfl⟩ D' er ex eb hnx hct
    obtain ⟨hi, rfl⟩ := rng_at hx
    have hi' : i < a.length := by simpa using hi
    rw [Nat.zero_add] at hnx ⊢
    simp only [dNext, dSeq, dDrop, dRet, dRetN, dIf, dCall, dCB, dCBK, dCons, dNil, dVar, dC, dOp, dB, dTru, dAndT, dOrT, dNotT, dAndV, dOrV, dNotV, dIfE, dChain, dTup, dLst, dSl, dPart, dNoPart, dgName, dgTup, dgCons, dgNil, dgSub, dAsg, dPar, dAug, dNeg, ends, fLt, fLe, fGt, fGe, fSub, fMod, fDiv, fPow, iAddI, iSubI, ii, fInt, fMax2, fMin2, fLen, fTuple, fList, List.length_cons, List.length_nil, startD, List.replicate, List.cons_append, List.nil_append, List.append_nil, Nat.zero_add, Nat.reduceAdd, Nat.reduceSub, List.getElem?_cons_succ, List.getElem?_cons_zero, List.set_cons_zero, List.set_cons_succ, wipeD, dFld, dFldSet, dMeth, dMake, dIsO, dFmt, dJs, dStep, dRaise0, iDivI, iModI, iMulI, dRaiseX, dMeth2, dIsi2, dFor, dIRng1]
    rw [Int.zero_add]
    refine ⟨_, rfl, .int (ati a i), by rw [ix_tup, atI_dI (by omega) (by omega), Int.toNat_natCast], ne_int ?_⟩
    have bi := ati_bd hxa i
    have go : ∀ c : Bool, (c = false → ati a i = 0) → fMul (.int ((dI b).length : Nat)) (.int (if c = true then 1 else 0)) (mup M f (.lst (dI (zipR (a.length + b.length) fun n => sm (fun i => ati a i * sh b n i) i)))) fun x M1 => match [x] with
        | [.int j] => (-2 ^ 62 ≤ j ∧ j < 2 ^ 62) ∧ dForL (dgName 5) (dAsg (dOp fAdd (dOp fIx (dVar 3) (dOp fAdd (dVar 4) (dVar 5))) (dOp fMul (dOp fIx (dVar 1) (dVar 4)) (dOp fIx (dVar 2) (dVar 5)))) (dgSub (dVar 3) (dOp fAdd (dVar 4) (dVar 5)))) (rgD 0 j.toNat) D' [some (.int p), some (tI a), some (tI b), some (.ref f), some (.int (i : Int)), o5, o6] M1
        | x => False := fun c hc0 => by
      rw [ldb]
      have hb1 : (if c = true then (1 : Int) else 0).natAbs ≤ 1 := by cases c <;> decide
      refine ⟨⟨big200 (by omega), big200 (by omega)⟩, ?_⟩
      dsimp only
      obtain ⟨m, hm, hmb⟩ : ∃ m : Nat, (b.length : Int) * (if c = true then 1 else 0) = (m : Int) ∧ m ≤ b.length ∧ (m < b.length → ati a i = 0) := by
        cases c with
        | true => exact ⟨b.length, by simp, Nat.le_refl _, fun h => absurd h (Nat.lt_irrefl _)⟩
        | false => exact ⟨0, by simp, Nat.zero_le _, fun _ => hc0 rfl⟩
      rw [hm, Int.toNat_natCast]
      refine ⟨⟨by omega, by omega⟩, ?_⟩
      refine forL_inv (fun j σ M' => ∃ o5 o6, σ = [some (.int p), some (tI a), some (tI b), some (.ref f), some (.int (i : Int)), o5, o6] ∧ M' = mup M f (.lst (dI (zipR (a.length + b.length) fun n => sm (fun i => ati a i * sh b n i) i + if i ≤ n ∧ n - i < j then ati a i * ati b (n - i) else 0)))) _ 0 ?_ ?_ ⟨o5, o6, rfl, ?_⟩
      · rintro j x σ M' hx ⟨o5, o6, rfl, rfl⟩ D2 er2 ex2 eb2 hnx2 hct2
        obtain ⟨hj, rfl⟩ := rng_at hx
        rw [Nat.zero_add] at hnx2 ⊢
        simp only [dNext, dSeq, dDrop, dRet, dRetN, dIf, dCall, dCB, dCBK, dCons, dNil, dVar, dC, dOp, dB, dTru, dAndT, dOrT, dNotT, dAndV, dOrV, dNotV, dIfE, dChain, dTup, dLst, dSl, dPart, dNoPart, dgName, dgTup, dgCons, dgNil, dgSub, dAsg, dPar, dAug, dNeg, ends, fLt, fLe, fGt, fGe, fSub, fMod, fDiv, fPow, iAddI, iSubI, ii, fInt, fMax2, fMin2, fLen, fTuple, fList, List.length_cons, List.length_nil, startD, List.replicate, List.cons_append, List.nil_append, List.append_nil, Nat.zero_add, Nat.reduceAdd, Nat.reduceSub, List.getElem?_cons_succ, List.getElem?_cons_zero, List.set_cons_zero, List.set_cons_succ, wipeD, dFld, dFldSet, dMeth, dMake, dIsO, dFmt, dJs, dStep, dRaise0, iDivI, iModI, iMulI, dRaiseX, dMeth2, dIsi2]
        rw [Int.zero_add]
        have bnd : i + j < a.length + b.length := by omega
        have bj := ati_bd hxb j
        refine fAdd_int ⟨.int (sm (fun i' => ati a i' * sh b (i + j) i') i), ?_, ?_⟩
        · rw [lst_ix (ds := dI (zipR (a.length + b.length) fun n => sm (fun i => ati a i * sh b n i) i + if i ≤ n ∧ n - i < j then ati a i * ati b (n - i) else 0)) (by unfold lstOf; dsimp only; rw [mup_same])]
          rw [atI_dI (by omega) (by simp [zipR]; omega), show ((i : Int) + (j : Int)).toNat = i + j by omega, ati_zipR, if_pos bnd]
          rw [if_neg (show ¬ (i ≤ i + j ∧ i + j - i < j) by omega), Int.add_zero]
        refine ⟨.int (ati a i), by rw [ix_tup, atI_dI (by omega) (by omega), Int.toNat_natCast], .int (ati b j), by rw [ix_tup, atI_dI (by omega) (by omega), Int.toNat_natCast], ⟨big200 (by omega), big200 (by omega)⟩, fAdd_int ?_⟩
        refine fAdd_int (fset_any mup_same (by omega) (by simp [zipR]; omega) ?_)
        refine hnx2 _ _ ⟨_, _, rfl, ?_⟩
        rw [mup_mup]
        congr 2
        rw [show ((i : Int) + (j : Int)).toNat = i + j by omega]
        have : (dI (zipR (a.length + b.length) fun n => sm (fun i => ati a i * sh b n i) i + if i ≤ n ∧ n - i < j then ati a i * ati b (n - i) else 0)).set (i + j) (D.int (sm (fun i' => ati a i' * sh b (i + j) i') i + ati a i * ati b j)) = dI ((zipR (a.length + b.length) fun n => sm (fun i => ati a i * sh b n i) i + if i ≤ n ∧ n - i < j then ati a i * ati b (n - i) else 0).set (i + j) (sm (fun i' => ati a i' * sh b (i + j) i') i + ati a i * ati b j)) := by
          simp [dI, List.map_set]
        rw [this, zipR_set]
        congr 1
        unfold zipR
        refine List.map_congr_left fun n _ => ?_
        by_cases hn : n = i + j
        · subst hn
          rw [if_pos rfl, if_pos (show i ≤ i + j ∧ i + j - i < j + 1 by omega), show i + j - i = j by omega]
        · rw [if_neg hn]
          by_cases h3 : i ≤ n ∧ n - i < j
          · rw [if_pos h3, if_pos (show i ≤ n ∧ n - i < j + 1 by omega)]
          · rw [if_neg h3, if_neg (show ¬ (i ≤ n ∧ n - i < j + 1) by omega)]
      · rintro σ M' ⟨o5, o6, rfl, rfl⟩
        refine hnx _ _ ⟨_, _, _, rfl, ?_⟩
        congr 3
        unfold zipR
        refine List.map_congr_left fun n _ => ?_
        show _ = sm _ i + ati a i * sh b n i
        congr 1
        unfold sh
        rw [rgD_length, Nat.zero_add]
        by_cases h3 : i ≤ n
        · rw [if_pos h3]
          by_cases h4 : n - i < m
          · rw [if_pos ⟨h3, h4⟩]
          · rw [if_neg (fun z => h4 z.2)]
            by_cases h5 : n - i < b.length
            · rw [hmb.2 (by omega), Int.zero_mul]
            · rw [ati_ge (show b.length ≤ n - i by omega), Int.mul_zero]
        · rw [if_neg h3, if_neg (fun z => h3 z.1), Int.mul_zero]
      · congr 3
        unfold zipR
        refine List.map_congr_left fun n _ => ?_
        rw [if_neg (by omega), Int.add_zero]
    exact go _ fun h => by simpa using h
  · rintro σ M' ⟨o4, o5, o6, rfl, rfl⟩
    rw [rgD_length]
    simp only [dNext, dSeq, dDrop, dRet, dRetN, dIf, dCall, dCB, dCBK, dCons, dNil, dVar, dC, dOp, dB, dTru, dAndT, dOrT, dNotT, dAndV, dOrV, dNotV, dIfE, dChain, dTup, dLst, dSl, dPart, dNoPart, dgName, dgTup, dgCons, dgNil, dgSub, dAsg, dPar, dAug, dNeg, ends, fLt, fLe, fGt, fGe, fSub, fMod, fDiv, fPow, iAddI, iSubI, ii, fInt, fMax2, fMin2, fLen, fTuple, fList, List.length_cons, List.length_nil, startD, List.replicate, List.cons_append, List.nil_append, List.append_nil, Nat.zero_add, Nat.reduceAdd, Nat.reduceSub, List.getElem?_cons_succ, List.getElem?_cons_zero, List.set_cons_zero, List.set_cons_succ, wipeD, dFld, dFldSet, dMeth, dMake, dIsO, dFmt, dJs, dStep, dRaise0, iDivI, iModI, iMulI, dRaiseX, dMeth2, dIsi2]
    rw [Int.toNat_natCast] 
    refine comp_ints (x := lI (zipR (a.length + b.length) fun n => cv a b n)) (M1 := M) (g := fun i => .int (i % p)) rfl (fun Q' q' => ?_) (by simp [zipR]; omega) (fun i hi Q' q' => ?_) ?_
    · simp only [dFrz, dNext, dSeq, dDrop, dRet, dRetN, dIf, dCall, dCB, dCBK, dCons, dNil, dVar, dC, dOp, dB, dTru, dAndT, dOrT, dNotT, dAndV, dOrV, dNotV, dIfE, dChain, dTup, dLst, dSl, dPart, dNoPart, dgName, dgTup, dgCons, dgNil, dgSub, dAsg, dPar, dAug, dNeg, ends, fLt, fLe, fGt, fGe, fSub, fMod, fDiv, fPow, iAddI, iSubI, ii, fInt, fMax2, fMin2, fLen, fTuple, fList, List.length_cons, List.length_nil, startD, List.replicate, List.cons_append, List.nil_append, List.append_nil, Nat.zero_add, Nat.reduceAdd, Nat.reduceSub, List.getElem?_cons_succ, List.getElem?_cons_zero, List.set_cons_zero, List.set_cons_succ, wipeD, dFld, dFldSet, dMeth, dMake, dIsO, dFmt, dJs, dStep, dRaise0, iDivI, iModI, iMulI, dRaiseX, dMeth2, dIsi2]
      refine ⟨f, _, rfl, mup_same, ?_⟩
      have e : mdel (mup M f (MO.lst (dI (zipR (a.length + b.length) fun n => sm (fun i => ati a i * sh b n i) a.length)))) f = M := mdel_mup hf
      rw [List.length_map, e]
      exact q'
    · simp only [dNext, dSeq, dDrop, dRet, dRetN, dIf, dCall, dCB, dCBK, dCons, dNil, dVar, dC, dOp, dB, dTru, dAndT, dOrT, dNotT, dAndV, dOrV, dNotV, dIfE, dChain, dTup, dLst, dSl, dPart, dNoPart, dgName, dgTup, dgCons, dgNil, dgSub, dAsg, dPar, dAug, dNeg, ends, fLt, fLe, fGt, fGe, fSub, fMod, fDiv, fPow, iAddI, iSubI, ii, fInt, fMax2, fMin2, fLen, fTuple, fList, List.length_cons, List.length_nil, startD, List.replicate, List.cons_append, List.nil_append, List.append_nil, Nat.zero_add, Nat.reduceAdd, Nat.reduceSub, List.getElem?_cons_succ, List.getElem?_cons_zero, List.set_cons_zero, List.set_cons_succ, wipeD, dFld, dFldSet, dMeth, dMake, dIsO, dFmt, dJs, dStep, dRaise0, iDivI, iModI, iMulI, dRaiseX, dMeth2, dIsi2]
      exact ⟨hp, q'⟩
    · refine ⟨_, zipR (a.length + b.length) fun n => cv a b n % p, rfl, .inr ?_, by simp [zipR]; omega, .here ?_⟩
      · simp [lI, zipR, dI, Function.comp_def]
      · rw [zip_prod]; exact q
end DL

set_option Elab.async false
set_option linter.all false
set_option maxRecDepth 100000
set_option maxHeartbeats 400000
namespace DL
open PySem PySem.Spec PyProof.Rows L2
open PySem.W (Frag)
variable [TB]
/-! ### befores: a beat undone -/
def iv (p s : Int) : Int := if s * 1 % p = 1 then 1 else if s * 2 % p = 1 then 2 else if s * 3 % p = 1 then 3 else 4
theorem iv_ok {p s : Int} (hp : Pr p) (h0 : 0 < s) (h1 : s < p) : s * iv p s % p = 1 := by
  rcases hp with rfl | rfl | rfl
  · obtain rfl : s = 1 := by omega
    decide
  · have : s = 1 ∨ s = 2 := by omega
    rcases this with rfl | rfl <;> decide
  · have : s = 1 ∨ s = 2 ∨ s = 3 ∨ s = 4 := by omega
    rcases this with rfl | rfl | rfl | rfl <;> decide
/-- the beads ahead of a beat by a page -/
def Ub (p : Int) (x : Pg) (c : Int) (S : Nat → Int) : Nat → Int
  | 0 => c
  | n + 1 => (S n - x.2.1 * Ub p x c S n - ati x.2.2 (n + 1)) * iv p x.1 % p
theorem Ub.bd {p c : Int} {x : Pg} {S : Nat → Int} (hp : 0 < p) (c0 : 0 ≤ c) (c1 : c < p) : ∀ n, 0 ≤ Ub p x c S n ∧ Ub p x c S n < p
  | 0 => ⟨c0, c1⟩
  | n + 1 => ⟨Int.emod_nonneg _ (by omega), Int.emod_lt_of_pos _ hp⟩
theorem Ub.beat {p c : Int} {x : Pg} {S : Nat → Int} (hp : Pr p) (ok : PgOk p c x) (hS : ∀ n, 0 ≤ S n ∧ S n < p) : Bt p x (Ub p x c S) = S := by
  funext n
  have hi := iv_ok hp ok.s0 ok.s1
  unfold Bt
  show (x.1 * ((S n - x.2.1 * Ub p x c S n - ati x.2.2 (n + 1)) * iv p x.1 % p) + x.2.1 * Ub p x c S n + ati x.2.2 (n + 1)) % p = S n
  generalize Ub p x c S n = u
  generalize ati x.2.2 (n + 1) = e
  have h1 : (x.1 * ((S n - x.2.1 * u - e) * iv p x.1 % p)) % p = (S n - x.2.1 * u - e) % p := by
    rw [Int.mul_emod, Int.emod_emod, ← Int.mul_emod, ← Int.mul_assoc, Int.mul_comm x.1, Int.mul_assoc, Int.mul_emod, hi, Int.mul_one, Int.emod_emod]
  rw [Int.add_assoc, Int.add_emod, h1, ← Int.add_emod]
  rw [show S n - x.2.1 * u - e + (x.2.1 * u + e) = S n by omega]
  exact Int.emod_eq_of_lt (hS n).1 (hS n).2
/-- the beads ahead of beats by a word's ticks -/
def Ubs (p : Int) (l : List Pg) : List Int → (Nat → Int) → Nat → Int
  | [], S => S
  | c :: w, S => Ub p (pgAt l c) c (Ubs p l w S)
theorem In.tail {p c : Int} {w : List Int} (h : In p (c :: w)) : In p w := fun x hx => h x (List.mem_cons_of_mem _ hx)
theorem Ubs.bd {p : Int} {l : List Pg} {S : Nat → Int} (hp : Pr p) (hS : ∀ n, 0 ≤ S n ∧ S n < p) : ∀ {w : List Int}, In p w → ∀ n, 0 ≤ Ubs p l w S n ∧ Ubs p l w S n < p
  | [], _ => hS
  | c :: w, iw => Ub.bd hp.pos (iw c List.mem_cons_self).1 (iw c List.mem_cons_self).2
theorem Sk.front (p : Int) (l : List Pg) (S : Nat → Int) (k : Nat) : Sk p l S (k + 1) = Sk p l (Bt p (pgAt l (S 0)) S) k := by
  rw [Nat.add_comm k 1, Sk.add p l S 1 k]; rfl
theorem Ubs.step {p c : Int} {l : List Pg} {S : Nat → Int} {w : List Int} (hp : Pr p) (hb : Bk p l) (hS : ∀ n, 0 ≤ S n ∧ S n < p) (iw : In p (c :: w)) (k : Nat) : Sk p l (Ubs p l (c :: w) S) (k + 1) = Sk p l (Ubs p l w S) k := by
  have hc := iw c List.mem_cons_self
  obtain ⟨_, ok, _⟩ := hb.at hc.1 hc.2
  rw [Sk.front]
  show Sk p l (Bt p (pgAt l c) (Ub p (pgAt l c) c (Ubs p l w S))) k = _
  rw [Ub.beat hp ok (Ubs.bd hp hS iw.tail)]
theorem Ubs.sk {p : Int} {l : List Pg} {S : Nat → Int} (hp : Pr p) (hb : Bk p l) (hS : ∀ n, 0 ≤ S n ∧ S n < p) : ∀ {w : List Int}, In p w → ∀ k, k ≤ w.length → Sk p l (Ubs p l w S) k = Ubs p l (w.drop k) S
  | w, _, 0, _ => by rw [List.drop_zero]; rfl
  | [], _, k + 1, h => absurd h (Nat.not_succ_le_zero k)
  | c :: w, iw, k + 1, h => by
    rw [Ubs.step hp hb hS iw, Ubs.sk hp hb hS iw.tail k (Nat.le_of_succ_le_succ h)]
    rfl
theorem Ubs.tick {p : Int} {l : List Pg} {S : Nat → Int} {w : List Int} (hp : Pr p) (hb : Bk p l) (hS : ∀ n, 0 ≤ S n ∧ S n < p) (iw : In p w) {k : Nat} (hk : k < w.length) : Sk p l (Ubs p l w S) k 0 = ati w k := by
  rw [Ubs.sk hp hb hS iw k (Nat.le_of_lt hk)]
  have : w.drop k = ati w k :: w.drop (k + 1) := by
    rw [List.drop_eq_getElem_cons hk]
    congr 1
    simp [ati, hk]
  rw [this]; rfl
theorem Ubs.end_ {p : Int} {l : List Pg} {S : Nat → Int} {w : List Int} (hp : Pr p) (hb : Bk p l) (hS : ∀ n, 0 ≤ S n ∧ S n < p) (iw : In p w) : Sk p l (Ubs p l w S) w.length = S := by
  rw [Ubs.sk hp hb hS iw _ (Nat.le_refl _), List.drop_length]; rfl
theorem Ubs.app {p : Int} {l : List Pg} {S : Nat → Int} : ∀ (v w : List Int), Ubs p l (v ++ w) S = Ubs p l v (Ubs p l w S)
  | [], _ => rfl
  | c :: v, w => by
    show Ub p (pgAt l c) c (Ubs p l (v ++ w) S) = Ub p (pgAt l c) c (Ubs p l v (Ubs p l w S))
    rw [Ubs.app v w]
/-- the row by the work's two rows is the one ahead -/
theorem Ser.led {p : Int} {l : List Pg} {S : Nat → Int} {T U w : List Int} (hp : Pr p) (hb : Bk p l) (iw : In p w) (hS : Ser p T U S) :
    Ser p (trim (zipR (max (psh T w.length).length (prodR p (wk p l w w.length).2 U).length) fun k => (ati (psh T w.length) k - ati (prodR p (wk p l w w.length).2 U) k) % p)) (prodR p (wk p l w w.length).1 U) (Ubs p l w S) := by
  have bV := Ubs.bd (l := l) hp hS.bd iw
  refine ⟨bV, ?_⟩
  have h := wk_led hp hb bV w.length fun i hi => (Ubs.tick hp hb hS.bd iw hi).symm
  rw [Ubs.end_ hp hb hS.bd iw] at h
  generalize Ubs p l w S = V at h bV ⊢
  have h2 : Cg p (mulS (ati (wk p l w w.length).1) V) fun k => ShN w.length S k + -1 * ati (wk p l w w.length).2 k := fun n => by
    have e := h n
    dsimp only at e ⊢
    rw [Int.add_emod, e, ← Int.add_emod]
    congr 1
    omega
  refine ((prod_cg p _ U).mul (.refl V)).trans (((Cg.comm _ (ati U)).mul (.refl V)).trans ((Cg.assoc (ati U) _ V).trans (((Cg.refl (ati U)).mul h2).trans ?_)))
  refine (Cg.fn fun n => mulS_add (ati U) _ _ n).trans ?_
  refine Cg.trans (g := fun n => ShN w.length (ati T) n + -1 * ati (prodR p (wk p l w w.length).2 U) n) (Cg.add (((Cg.fn fun n => mulS_ShN (ati U) S w.length n)).trans (Cg.ShN _ hS.eq)) ((Cg.fn fun n => mulS_neg (ati U) _ n).trans (Cg.scal (-1) ((Cg.comm _ _).trans (prod_cg p _ U).symm)))) fun n => ?_
  rw [sub_at, ati_psh, Int.emod_emod]
  congr 1
  dsimp only
  omega
def sp_led_back : DSp := fun xs M Q _ => ∃ p l T U S w cap, xs = [bookD p l, rowD p T U, tI w] ∧ Pr p ∧ Bk p l ∧ RSe p S T U ∧ In p w ∧ (∀ x ∈ l, x.2.2.length ≤ cap) ∧ 2 * w.length + cap + 2 ≤ 1000 ∧ T.length ≤ 1000 ∧ U.length ≤ 1000 ∧
  ∀ T' U', RSe p (Ubs p l w S) T' U' → T'.length ≤ max (w.length + T.length) (2 * w.length + cap + U.length) → U'.length ≤ 2 * w.length + 1 + U.length → Q (rowD p T' U') M
def b_led_back : DTS := (dSeq (dAsg (dMeth "Book" "prime" sp_Book_prime [] (dVar 0) dNil) (dgName 3)) (dSeq (dAsg (dCall sp_work (dCons (dVar 0) (dCons (dVar 2) dNil))) (dgTup 2 (dgCons (dgName 4) (dgCons (dgName 5) dgNil)))) (dSeq (dAsg (dCall sp_taken (dCons (dVar 3) (dCons (dCall sp_pushed (dCons (dMeth "Row" "top" sp_Row_top [] (dVar 1) dNil) (dCons (dCB fLen (dCons (dVar 2) dNil)) dNil))) (dCons (dCall sp_product (dCons (dVar 3) (dCons (dVar 5) (dCons (dMeth "Row" "bottom" sp_Row_bottom [] (dVar 1) dNil) dNil)))) dNil)))) (dgName 6)) (dRet (dMake "Row" sp_Row___init__ [] (dCons (dVar 3) (dCons (dVar 6) (dCons (dCall sp_product (dCons (dVar 3) (dCons (dVar 4) (dCons (dMeth "Row" "bottom" sp_Row_bottom [] (dVar 1) dNil) dNil)))) dNil))))))))
theorem hd_led_back : ∀ (xs : List D) (M : HM) (Q : DK) (E : XDK), sp_led_back xs M Q E → xs.length = (["book", "row", "word"] : List Str).length ∧ b_led_back (ends Q E) (startD (["book", "row", "word", "prime", "own", "more", "top"] : List Str).length xs) M := by
  rintro xs M Q E ⟨p, l, T, U, S, w, cap, rfl, hp, hb, r, iw, hc, lw, lT, lU, q⟩
  refine ⟨rfl, ?_⟩
  have hp0 := hp.pos
  have hp5 := hp.le
  simp only [startD, List.map_cons, List.map_nil, List.length_cons, List.length_nil, List.replicate, List.cons_append, List.nil_append, Nat.zero_add, Nat.reduceAdd, Nat.reduceSub]
  simp only [b_led_back, dNext, dSeq, dDrop, dRet, dRetN, dIf, dCall, dCB, dCBK, dCons, dNil, dVar, dC, dOp, dB, dTru, dAndT, dOrT, dNotT, dAndV, dOrV, dNotV, dIfE, dChain, dTup, dLst, dSl, dPart, dNoPart, dgName, dgTup, dgCons, dgNil, dgSub, dAsg, dPar, dAug, dNeg, ends, fLt, fLe, fGt, fGe, fSub, fMod, fDiv, fPow, iAddI, iSubI, ii, fInt, fMax2, fMin2, fLen, fTuple, fList, List.length_cons, List.length_nil, startD, List.replicate, List.cons_append, List.nil_append, List.append_nil, Nat.zero_add, Nat.reduceAdd, Nat.reduceSub, List.getElem?_cons_succ, List.getElem?_cons_zero, List.set_cons_zero, List.set_cons_succ, wipeD, dFld, dFldSet, dMeth, dMake, dIsO, dFmt, dJs, dStep, dRaise0, iDivI, iModI, iMulI, dRaiseX, dMeth2, dIsi2]
  refine ⟨_, ob_book, nkb_prime, _, _, rfl, p, l, w, cap, rfl, hp, hb, iw, hc, lw, _, rfl, rfl, rfl, ?_⟩
  obtain ⟨h1, h2, h3, h4, h5, h6, h7⟩ := wk_ok hp hb iw hc w.length
  refine ⟨_, ob_row, nk_top, _, _, _, rfl, _, len_tI, T, (w.length : Int), rfl, by omega, by omega, by omega, ?_⟩
  rw [Int.toNat_natCast]
  have l1 := len_psh T w.length
  have l2 := len_prod p (wk p l w w.length).2 U
  have l3 := len_prod p (wk p l w w.length).1 U
  refine ⟨_, ob_row, nk_bottom, _, _, _, rfl, p, _, U, rfl, hp0, by omega, by omega, In.bd h3 (by omega), In.bd r.n.iB (by omega), ?_⟩
  refine ⟨p, _, _, rfl, hp0, by omega, by omega, ?_⟩
  refine ⟨_, ob_row, nk_bottom, _, _, _, rfl, p, _, U, rfl, hp0, by omega, by omega, In.bd h1 (by omega), In.bd r.n.iB (by omega), ?_⟩
  have lz := len_zip (m := max (psh T w.length).length (prodR p (wk p l w w.length).2 U).length) (f := fun k => (ati (psh T w.length) k - ati (prodR p (wk p l w w.length).2 U) k) % p)
  refine mk_rowS hp (In.zip hp0).trim (trim_trim _) (In.prod hp0 _ _).1 (In.prod hp0 _ _).2 (prod_head hp h1 r.n.iB h7 r.n.u0) (by omega) (by omega) (r.s.led hp hb iw) fun T' U' r' l4 l5 => ?_
  exact .here (q T' U' r' (by omega) (by omega))
def sp_before : DSp := fun xs M Q _ => sp_led_back xs M Q fun _ _ => False
def b_before : DTS := (dSeq (dDrop (dCall sp_need_like (dCons (dVar 0) (dCons (dVar 1) dNil)))) (dRet (dCall sp_led_back (dCons (dVar 0) (dCons (dVar 1) (dCons (dVar 2) dNil))))))
theorem hd_before : ∀ (xs : List D) (M : HM) (Q : DK) (E : XDK), sp_before xs M Q E → xs.length = (["book", "row", "word"] : List Str).length ∧ b_before (ends Q E) (startD (["book", "row", "word"] : List Str).length xs) M := by
  rintro xs M Q E ⟨p, l, T, U, S, w, cap, rfl, hp, hb, r, iw, hc, lw, lT, lU, q⟩
  refine ⟨rfl, ?_⟩
  simp only [startD, List.map_cons, List.map_nil, List.length_cons, List.length_nil, List.replicate, List.cons_append, List.nil_append, Nat.zero_add, Nat.reduceAdd, Nat.reduceSub]
  simp only [b_before, dNext, dSeq, dDrop, dRet, dRetN, dIf, dCall, dCB, dCBK, dCons, dNil, dVar, dC, dOp, dB, dTru, dAndT, dOrT, dNotT, dAndV, dOrV, dNotV, dIfE, dChain, dTup, dLst, dSl, dPart, dNoPart, dgName, dgTup, dgCons, dgNil, dgSub, dAsg, dPar, dAug, dNeg, ends, fLt, fLe, fGt, fGe, fSub, fMod, fDiv, fPow, iAddI, iSubI, ii, fInt, fMax2, fMin2, fLen, fTuple, fList, List.length_cons, List.length_nil, startD, List.replicate, List.cons_append, List.nil_append, List.append_nil, Nat.zero_add, Nat.reduceAdd, Nat.reduceSub, List.getElem?_cons_succ, List.getElem?_cons_zero, List.set_cons_zero, List.set_cons_succ, wipeD, dFld, dFldSet, dMeth, dMake, dIsO, dFmt, dJs, dStep, dRaise0, iDivI, iModI, iMulI, dRaiseX, dMeth2, dIsi2]
  refine ⟨_, _, p, p, rfl, hasP_book, hasP_row, fun z => absurd rfl z, fun _ => ?_⟩
  exact ⟨p, l, T, U, S, w, cap, rfl, hp, hb, r, iw, hc, lw, lT, lU, fun T' U' r' l1 l2 => .here (q T' U' r' l1 l2)⟩
/-! ### the law's own beats of beads -/
def sp__law_on : DSp := fun xs M Q _ => ∃ (p : Int) (x : Pg) (bs : List Int), xs = [.int p, pgD x, tI bs] ∧ 0 < p ∧ x.1.natAbs ≤ 1000 ∧ x.2.1.natAbs ≤ 1000 ∧ (∀ y ∈ bs, y.natAbs ≤ 1000) ∧ bs.length ≤ 5000 ∧ x.2.2.length ≤ 5000 ∧ Q (tI ((List.range (bs.length - 1)).map (Bt p x (ati bs)))) M
def b__law_on : DTS := (dSeq (dAsg (dVar 1) (dgTup 3 (dgCons (dgName 3) (dgCons (dgName 4) (dgCons (dgName 5) dgNil))))) (dSeq (dAsg (dLstM dNil) (dgName 6)) (dSeq (dFor (dIRng2 (dCons (dC (.int 1)) (dCons (dCB fLen (dCons (dVar 2) dNil)) dNil))) (dgName 7) (dDrop (dBM "list" fAppend (dVar 6) (dCons (dOp fMod (dOp fAdd (dOp fAdd (dOp fMul (dVar 3) (dOp fIx (dVar 2) (dVar 7))) (dOp fMul (dVar 4) (dOp fIx (dVar 2) (dOp fSub (dVar 7) (dC (.int 1)))))) (dIfE (dB (dOp fLt (dVar 7) (dCB fLen (dCons (dVar 5) dNil)))) (dOp fIx (dVar 5) (dVar 7)) (dC (.int 0)))) (dVar 0)) dNil)))) (dRet (dCB fTuple (dCons (dVar 6) dNil))))))
theorem hd__law_on : ∀ (xs : List D) (M : HM) (Q : DK) (E : XDK), sp__law_on xs M Q E → xs.length = (["_law_p", "_law_page", "_law_beads_here"] : List Str).length ∧ b__law_on (ends Q E) (startD (["_law_p", "_law_page", "_law_beads_here", "_law_s", "_law_r", "_law_addend", "_law_found", "_law_k"] : List Str).length xs) M := by
  rintro xs M Q E ⟨p, ⟨s, r, e⟩, bs, rfl, hp, hs, hr, hbs, lb, le, q⟩
  refine ⟨rfl, ?_⟩
  dsimp only at hs hr le
  simp only [startD, List.map_cons, List.map_nil, List.length_cons, List.length_nil, List.replicate, List.cons_append, List.nil_append, Nat.zero_add, Nat.reduceAdd, Nat.reduceSub]
  simp only [b__law_on, dNext, dSeq, dDrop, dRet, dRetN, dIf, dCall, dCB, dCBK, dCons, dNil, dVar, dC, dOp, dB, dTru, dAndT, dOrT, dNotT, dAndV, dOrV, dNotV, dIfE, dChain, dTup, dLst, dSl, dPart, dNoPart, dgName, dgTup, dgCons, dgNil, dgSub, dAsg, dPar, dAug, dNeg, ends, fLt, fLe, fGt, fGe, fSub, fMod, fDiv, fPow, iAddI, iSubI, ii, fInt, fMax2, fMin2, fLen, fTuple, fList, List.length_cons, List.length_nil, startD, List.replicate, List.cons_append, List.nil_append, List.append_nil, Nat.zero_add, Nat.reduceAdd, Nat.reduceSub, List.getElem?_cons_succ, List.getElem?_cons_zero, List.set_cons_zero, List.set_cons_succ, wipeD, dFld, dFldSet, dMeth, dMake, dIsO, dFmt, dJs, dStep, dRaise0, iDivI, iModI, iMulI, dRaiseX, dMeth2, dIsi2, dFor, dIRng2, dLstM, pgD]
  refine ⟨_, rfl, rfl, rfl, by decide, fun f hf => ⟨_, len_tI, ⟨by decide, by decide, by omega, by omega⟩, ?_⟩⟩
  refine forL_inv (fun i σ M' => ∃ o7, σ = [some (.int p), some (.tup [.int s, .int r, tI e]), some (tI bs), some (.int s), some (.int r), some (tI e), some (.ref f), o7] ∧ M' = mup M f (.lst (dI ((List.range i).map (Bt p (s, r, e) (ati bs)))))) _ 0 ?_ ?_ ⟨_, rfl, rfl⟩
  · rintro i x σ M' hx ⟨o7, rfl, rfl⟩ D' er ex eb hnx hct
    have hi := (List.getElem?_eq_some_iff.mp hx).1
    rw [rgD_length] at hi
    obtain rfl : x = .int (1 + (i : Int)) := by
      unfold rgD at hx
      rw [List.getElem?_map, List.getElem?_range hi] at hx
      exact (Option.some.inj hx).symm
    rw [Nat.zero_add] at hnx ⊢
    simp only [dNext, dSeq, dDrop, dRet, dRetN, dIf, dCall, dCB, dCBK, dCons, dNil, dVar, dC, dOp, dB, dTru, dAndT, dOrT, dNotT, dAndV, dOrV, dNotV, dIfE, dChain, dTup, dLst, dSl, dPart, dNoPart, dgName, dgTup, dgCons, dgNil, dgSub, dAsg, dPar, dAug, dNeg, ends, fLt, fLe, fGt, fGe, fSub, fMod, fDiv, fPow, iAddI, iSubI, ii, fInt, fMax2, fMin2, fLen, fTuple, fList, List.length_cons, List.length_nil, startD, List.replicate, List.cons_append, List.nil_append, List.append_nil, Nat.zero_add, Nat.reduceAdd, Nat.reduceSub, List.getElem?_cons_succ, List.getElem?_cons_zero, List.set_cons_zero, List.set_cons_succ, wipeD, dFld, dFldSet, dMeth, dMake, dIsO, dFmt, dJs, dStep, dRaise0, iDivI, iModI, iMulI, dRaiseX, dMeth2, dIsi2, dBM]
    have b1 := ati_bd hbs (i + 1)
    have b0 := ati_bd hbs i
    refine ⟨knd_ref mup_same, .int (ati bs (i + 1)), ?_, ?_⟩
    · rw [ix_tup, atI_dI (by omega) (by omega)]
      congr 2
      congr 1
      omega
    refine ⟨⟨big200 (by omega), big200 (by omega)⟩, .int (ati bs i), ?_, ?_⟩
    · rw [ix_tup, atI_dI (by omega) (by omega)]
      congr 2
      congr 1
      omega
    refine ⟨⟨big200 (by omega), big200 (by omega)⟩, fAdd_int ?_⟩
    refine ⟨_, len_tI, ?_⟩
    have fin : ∀ z, z = ati e (i + 1) → fAdd (.int (s * ati bs (i + 1) + r * ati bs i)) (.int z) (mup M f (.lst (dI ((List.range i).map (Bt p (s, r, e) (ati bs)))))) fun x M1 => fMod x (.int p) M1 fun x M1 => fAppend (.ref f) [x] M1 fun _ M1 => D'.nx [some (.int p), some (.tup [.int s, .int r, tI e]), some (tI bs), some (.int s), some (.int r), some (tI e), some (.ref f), some (.int (1 + (i : Int)))] M1 := by
      rintro z rfl
      refine fAdd_int ⟨hp, app_ref mup_same (by simp; omega) ?_⟩
      rw [mup_mup]
      refine hnx _ _ ⟨_, rfl, ?_⟩
      congr 2
      rw [List.range_succ, List.map_append]
      simp only [List.map_append, List.map_cons, List.map_nil]
      rfl
    refine ⟨fun hlt => ?_, fun hlt => ?_⟩
    · have hlt := of_decide_eq_true hlt
      refine ⟨.int (ati e (i + 1)), ?_, fin _ rfl⟩
      rw [ix_tup, atI_dI (by omega) (by omega)]
      congr 2
      congr 1
      omega
    · have hlt := of_decide_eq_false hlt
      exact fin 0 (ati_ge (by omega)).symm
  · rintro σ M' ⟨o7, rfl, rfl⟩
    simp only [dNext, dSeq, dDrop, dRet, dRetN, dIf, dCall, dCB, dCBK, dCons, dNil, dVar, dC, dOp, dB, dTru, dAndT, dOrT, dNotT, dAndV, dOrV, dNotV, dIfE, dChain, dTup, dLst, dSl, dPart, dNoPart, dgName, dgTup, dgCons, dgNil, dgSub, dAsg, dPar, dAug, dNeg, ends, fLt, fLe, fGt, fGe, fSub, fMod, fDiv, fPow, iAddI, iSubI, ii, fInt, fMax2, fMin2, fLen, fTuple, fList, List.length_cons, List.length_nil, startD, List.replicate, List.cons_append, List.nil_append, List.append_nil, Nat.zero_add, Nat.reduceAdd, Nat.reduceSub, List.getElem?_cons_succ, List.getElem?_cons_zero, List.set_cons_zero, List.set_cons_succ, wipeD, dFld, dFldSet, dMeth, dMake, dIsO, dFmt, dJs, dStep, dRaise0, iDivI, iModI, iMulI, dRaiseX, dMeth2, dIsi2]
    rw [rgD_length]
    refine ⟨dI ((List.range (bs.length - 1)).map (Bt p (s, r, e) (ati bs))), ?_, .of (M' := M) (fun b hb => ?_) q⟩
    · unfold seqOf lstOf
      dsimp only
      rw [mup_same, show ((bs.length : Int) - 1).toNat = bs.length - 1 by omega]
    · rw [mup_ne]
      intro z
      subst z
      exact hb hf
def sp__law_ticks : DSp := fun xs M Q _ => ∃ (p : Int) (l : List Pg) (bs : List Int), xs = [.int p, .lst (l.map pgD), tI bs] ∧ Pr p ∧ Bk p l ∧ In p bs ∧ bs.length ≤ 5000 ∧ (∀ x ∈ l, x.2.2.length ≤ 5000) ∧ Q (tI (tkl p l (ati bs) bs.length)) M
def b__law_ticks : DTS := (dSeq (dAsg (dLstM dNil) (dgName 3)) (dSeq (dFor (dIRng1 (dCons (dCB fLen (dCons (dVar 2) dNil)) dNil)) (dgName 4) (dSeq (dDrop (dBM "list" fAppend (dVar 3) (dCons (dOp fIx (dVar 2) (dC (.int 0))) dNil))) (dAsg (dCall sp__law_on (dCons (dVar 0) (dCons (dOp fIx (dVar 1) (dOp fIx (dVar 2) (dC (.int 0)))) (dCons (dVar 2) dNil)))) (dgName 2)))) (dRet (dCB fTuple (dCons (dVar 3) dNil)))))
theorem hd__law_ticks : ∀ (xs : List D) (M : HM) (Q : DK) (E : XDK), sp__law_ticks xs M Q E → xs.length = (["_law_p", "_law_pages_here", "_law_beads_here"] : List Str).length ∧ b__law_ticks (ends Q E) (startD (["_law_p", "_law_pages_here", "_law_beads_here", "_law_found", "_law_k"] : List Str).length xs) M := by
  rintro xs M Q E ⟨p, l, bs, rfl, hp, hb, ib, lb, hc, q⟩
  refine ⟨rfl, ?_⟩
  have hp0 := hp.pos
  have hp5 := hp.le
  simp only [startD, List.map_cons, List.map_nil, List.length_cons, List.length_nil, List.replicate, List.cons_append, List.nil_append, Nat.zero_add, Nat.reduceAdd, Nat.reduceSub]
  simp only [b__law_ticks, dNext, dSeq, dDrop, dRet, dRetN, dIf, dCall, dCB, dCBK, dCons, dNil, dVar, dC, dOp, dB, dTru, dAndT, dOrT, dNotT, dAndV, dOrV, dNotV, dIfE, dChain, dTup, dLst, dSl, dPart, dNoPart, dgName, dgTup, dgCons, dgNil, dgSub, dAsg, dPar, dAug, dNeg, ends, fLt, fLe, fGt, fGe, fSub, fMod, fDiv, fPow, iAddI, iSubI, ii, fInt, fMax2, fMin2, fLen, fTuple, fList, List.length_cons, List.length_nil, startD, List.replicate, List.cons_append, List.nil_append, List.append_nil, Nat.zero_add, Nat.reduceAdd, Nat.reduceSub, List.getElem?_cons_succ, List.getElem?_cons_zero, List.set_cons_zero, List.set_cons_succ, wipeD, dFld, dFldSet, dMeth, dMake, dIsO, dFmt, dJs, dStep, dRaise0, iDivI, iModI, iMulI, dRaiseX, dMeth2, dIsi2, dFor, dIRng1, dLstM]
  refine ⟨by decide, fun f hf => ⟨_, len_tI, ⟨by omega, by omega⟩, ?_⟩⟩
  refine forL_inv (fun i σ M' => ∃ cs o4, σ = [some (.int p), some (.lst (l.map pgD)), some (tI cs), some (.ref f), o4] ∧ M' = mup M f (.lst (dI (tkl p l (ati bs) i))) ∧ cs.length = bs.length - i ∧ In p cs ∧ ∀ k, k < cs.length → ati cs k = Sk p l (ati bs) i k) _ 0 ?_ ?_ ⟨bs, _, rfl, rfl, rfl, ib, fun k _ => rfl⟩
  · rintro i x σ M' hx ⟨cs, o4, rfl, rfl, lc, ic, hcs⟩ D' er ex eb hnx hct
    obtain ⟨hi, rfl⟩ := rng_at hx
    have hi' : i < bs.length := by simpa using hi
    rw [Nat.zero_add] at hnx lc hcs ⊢
    simp only [dNext, dSeq, dDrop, dRet, dRetN, dIf, dCall, dCB, dCBK, dCons, dNil, dVar, dC, dOp, dB, dTru, dAndT, dOrT, dNotT, dAndV, dOrV, dNotV, dIfE, dChain, dTup, dLst, dSl, dPart, dNoPart, dgName, dgTup, dgCons, dgNil, dgSub, dAsg, dPar, dAug, dNeg, ends, fLt, fLe, fGt, fGe, fSub, fMod, fDiv, fPow, iAddI, iSubI, ii, fInt, fMax2, fMin2, fLen, fTuple, fList, List.length_cons, List.length_nil, startD, List.replicate, List.cons_append, List.nil_append, List.append_nil, Nat.zero_add, Nat.reduceAdd, Nat.reduceSub, List.getElem?_cons_succ, List.getElem?_cons_zero, List.set_cons_zero, List.set_cons_succ, wipeD, dFld, dFldSet, dMeth, dMake, dIsO, dFmt, dJs, dStep, dRaise0, iDivI, iModI, iMulI, dRaiseX, dMeth2, dIsi2, dBM]
    have c0 := ic.at hp0 0
    obtain ⟨hg, ok, hm⟩ := hb.at c0.1 c0.2
    have lx := hc _ hm
    have i0 : atI (dI cs) 0 = some (.int (ati cs 0)) := by rw [atI_dI (by omega) (by omega)]; rfl
    refine ⟨knd_ref mup_same, .int (ati cs 0), by rw [ix_tup]; exact i0, app_ref mup_same (by simp [tkl]; omega) ?_⟩
    rw [mup_mup]
    refine ⟨.int (ati cs 0), by rw [ix_tup]; exact i0, pgD (pgAt l (ati cs 0)), by rw [ix_lst]; exact atI_pg c0.1 hg, ?_⟩
    refine ⟨p, _, cs, rfl, hp0, by have := ok.s0; have := ok.s1; omega, by have := ok.r0; have := ok.r1; omega, In.bd ic (by omega), by omega, lx, ?_⟩
    have e0 := hcs 0 (by omega)
    refine hnx _ _ ⟨_, _, rfl, ?_, by simp; omega, fun y hy => ?_, fun k hk => ?_⟩
    · congr 2
      rw [e0]
      simp [tkl, List.range_succ]
    · obtain ⟨k, _, rfl⟩ := List.mem_map.mp hy
      exact Bt.bd hp0 _ _ _
    · rw [List.length_map, List.length_range] at hk
      rw [ati_range, if_pos hk, e0]
      show Bt p (pgAt l (Sk p l (ati bs) i 0)) (ati cs) k = Bt p (pgAt l (Sk p l (ati bs) i 0)) (Sk p l (ati bs) i) k
      unfold Bt
      rw [hcs k (by omega), hcs (k + 1) (by omega)]
  · rintro σ M' ⟨cs, o4, rfl, rfl, _⟩
    simp only [dNext, dSeq, dDrop, dRet, dRetN, dIf, dCall, dCB, dCBK, dCons, dNil, dVar, dC, dOp, dB, dTru, dAndT, dOrT, dNotT, dAndV, dOrV, dNotV, dIfE, dChain, dTup, dLst, dSl, dPart, dNoPart, dgName, dgTup, dgCons, dgNil, dgSub, dAsg, dPar, dAug, dNeg, ends, fLt, fLe, fGt, fGe, fSub, fMod, fDiv, fPow, iAddI, iSubI, ii, fInt, fMax2, fMin2, fLen, fTuple, fList, List.length_cons, List.length_nil, startD, List.replicate, List.cons_append, List.nil_append, List.append_nil, Nat.zero_add, Nat.reduceAdd, Nat.reduceSub, List.getElem?_cons_succ, List.getElem?_cons_zero, List.set_cons_zero, List.set_cons_succ, wipeD, dFld, dFldSet, dMeth, dMake, dIsO, dFmt, dJs, dStep, dRaise0, iDivI, iModI, iMulI, dRaiseX, dMeth2, dIsi2]
    rw [rgD_length, Int.toNat_natCast]
    refine ⟨dI (tkl p l (ati bs) bs.length), by unfold seqOf lstOf; dsimp only; rw [mup_same], .of (M' := M) (fun b hb => ?_) q⟩
    rw [mup_ne]
    intro z
    subst z
    exact hb hf
def sp__law_less : DSp := fun xs M Q _ => ∃ (p : Int) (a : List Int), xs = [.int p, tI a] ∧ 0 < p ∧ a.length ≤ 100000 ∧ Q (tI (a.map fun x => (0 - x) % p)) M
def b__law_less : DTS := (dRet (dCB fTuple (dCons (dComp (dISeq (dVar 1)) (tgN 2) dYes (dOp fMod (dOp fSub (dC (.int 0)) (dVar 2)) (dVar 0)) [2]) dNil)))
theorem hd__law_less : ∀ (xs : List D) (M : HM) (Q : DK) (E : XDK), sp__law_less xs M Q E → xs.length = (["_law_p", "_law_beads_here"] : List Str).length ∧ b__law_less (ends Q E) (startD (["_law_p", "_law_beads_here", "_law_bead"] : List Str).length xs) M := by
  rintro xs M Q E ⟨p, a, rfl, hp, la, q⟩
  refine ⟨rfl, ?_⟩
  simp only [startD, List.map_cons, List.map_nil, List.length_cons, List.length_nil, List.replicate, List.cons_append, List.nil_append, Nat.zero_add, Nat.reduceAdd, Nat.reduceSub]
  simp only [b__law_less, dNext, dSeq, dDrop, dRet, dRetN, dIf, dCall, dCB, dCBK, dCons, dNil, dVar, dC, dOp, dB, dTru, dAndT, dOrT, dNotT, dAndV, dOrV, dNotV, dIfE, dChain, dTup, dLst, dSl, dPart, dNoPart, dgName, dgTup, dgCons, dgNil, dgSub, dAsg, dPar, dAug, dNeg, ends, fLt, fLe, fGt, fGe, fSub, fMod, fDiv, fPow, iAddI, iSubI, ii, fInt, fMax2, fMin2, fLen, fTuple, fList, List.length_cons, List.length_nil, startD, List.replicate, List.cons_append, List.nil_append, List.append_nil, Nat.zero_add, Nat.reduceAdd, Nat.reduceSub, List.getElem?_cons_succ, List.getElem?_cons_zero, List.set_cons_zero, List.set_cons_succ, wipeD, dFld, dFldSet, dMeth, dMake, dIsO, dFmt, dJs, dStep, dRaise0, iDivI, iModI, iMulI, dRaiseX, dMeth2, dIsi2]
  refine comp_ints (ns := a) (g := fun x => .int ((0 - x) % p)) (x := tI a) rfl (fun Q' q' => q') (by omega) (fun x hx Q' q' => ?_) ?_
  · simp only [dNext, dSeq, dDrop, dRet, dRetN, dIf, dCall, dCB, dCBK, dCons, dNil, dVar, dC, dOp, dB, dTru, dAndT, dOrT, dNotT, dAndV, dOrV, dNotV, dIfE, dChain, dTup, dLst, dSl, dPart, dNoPart, dgName, dgTup, dgCons, dgNil, dgSub, dAsg, dPar, dAug, dNeg, ends, fLt, fLe, fGt, fGe, fSub, fMod, fDiv, fPow, iAddI, iSubI, ii, fInt, fMax2, fMin2, fLen, fTuple, fList, List.length_cons, List.length_nil, startD, List.replicate, List.cons_append, List.nil_append, List.append_nil, Nat.zero_add, Nat.reduceAdd, Nat.reduceSub, List.getElem?_cons_succ, List.getElem?_cons_zero, List.set_cons_zero, List.set_cons_succ, wipeD, dFld, dFldSet, dMeth, dMake, dIsO, dFmt, dJs, dStep, dRaise0, iDivI, iModI, iMulI, dRaiseX, dMeth2, dIsi2]
    exact ⟨hp, q'⟩
  · refine ⟨_, rfl, .here ?_⟩
    have : (a.map fun x => D.int ((0 - x) % p)) = dI (a.map fun x => (0 - x) % p) := by simp [dI]
    rw [this]
    exact q
end DL

set_option Elab.async false
set_option linter.all false
set_option maxRecDepth 100000
set_option maxHeartbeats 4000000
namespace DL
open PySem PySem.Spec PyProof.Rows L2
open PySem.W (Frag)
variable [TB]
/-! D28: max, min of a list of ints. -/
section
variable {X : Cx}
def fMax1 : DCo := fun xs M Q => match xs with
  | [x] => ∃ ns : List Int, lstOf M x = some (ns.map .int) ∧ ns ≠ [] ∧ ∀ m, m ∈ ns → (∀ y ∈ ns, y ≤ m) → Q (.int m) M
  | _ => False
theorem c_max1 (hc : X.calm = true) : DCall X (.builtin "max") fMax1 := by
  intro pn xe pins s σ H vs us Q I rv h
  obtain ⟨xs, M, Qd, rx, rh, h, hQ⟩ := h
  unfold fMax1 at h
  split at h
  · obtain ⟨v, rfl, r⟩ := rx.one
    obtain ⟨ns, e, n0, q⟩ := h
    obtain ⟨a, vs, rfl, hs, rs⟩ := lst_of rh r e
    rw [rs.ints] at hs
    exact cr_max (X := X.tr pn xe) hc pins s σ H _ us Q I rv ⟨a, ns, rfl, hs, List.length_pos_iff.mpr n0, fun m h1 h2 => hQ _ _ _ _ .refl rh .int (q m h1 h2)⟩
  · exact h.elim
def fMin1 : DCo := fun xs M Q => match xs with
  | [x] => ∃ ns : List Int, lstOf M x = some (ns.map .int) ∧ ns ≠ [] ∧ ∀ m, m ∈ ns → (∀ y ∈ ns, m ≤ y) → Q (.int m) M
  | _ => False
theorem c_min1 (hc : X.calm = true) : DCall X (.builtin "min") fMin1 := by
  intro pn xe pins s σ H vs us Q I rv h
  obtain ⟨xs, M, Qd, rx, rh, h, hQ⟩ := h
  unfold fMin1 at h
  split at h
  · obtain ⟨v, rfl, r⟩ := rx.one
    obtain ⟨ns, e, n0, q⟩ := h
    obtain ⟨a, vs, rfl, hs, rs⟩ := lst_of rh r e
    rw [rs.ints] at hs
    exact cr_min (X := X.tr pn xe) hc pins s σ H _ us Q I rv ⟨a, ns, rfl, hs, List.length_pos_iff.mpr n0, fun m h1 h2 => hQ _ _ _ _ .refl rh .int (q m h1 h2)⟩
  · exact h.elim
end
end DL

set_option Elab.async false
set_option linter.all false
set_option maxRecDepth 100000
set_option maxHeartbeats 400000
namespace DL
open PySem PySem.Spec PyProof.Rows L2
open PySem.W (Frag)
variable [TB]
/-! ### straight pages -/
def stP (p s r : Int) (e : List Int) : List Pg := (List.range p.toNat).map fun c : Nat => (s, r, trim (e.map fun x => x * (c : Int) % p))
theorem stP_get {p s r : Int} {e : List Int} {c : Nat} {x : Pg} (h : (stP p s r e)[c]? = some x) : (c : Int) < p ∧ x = (s, r, trim (e.map fun x => x * (c : Int) % p)) := by
  unfold stP at h
  rw [List.getElem?_map] at h
  by_cases hc : c < p.toNat
  · rw [List.getElem?_range hc] at h
    exact ⟨by omega, (Option.some.inj h).symm⟩
  · rw [List.getElem?_eq_none (by simp; omega)] at h
    cases h
theorem map_at {e : List Int} {f : Int → Int} (h0 : f 0 = 0) (k : Nat) : ati (e.map f) k = f (ati e k) := by
  unfold ati
  by_cases h : k < e.length
  · simp [h]
  · simp [h, h0]
theorem scl_at {p c : Int} {e : List Int} (k : Nat) : ati (e.map fun x => x * c % p) k = ati e k * c % p := map_at (f := fun x => x * c % p) (by simp) k
structure StOk (p s r : Int) (e : List Int) : Prop where
  s0 : 0 < s
  s1 : s < p
  r0 : 0 ≤ r
  r1 : r < p
  ie : In p e
  te : Tr e
  hd : ati e 0 = (0 - s) % p
theorem stP_bk {p s r : Int} {e : List Int} (hp : Pr p) (h : StOk p s r e) : Bk p (stP p s r e) := by
  have hp0 := hp.pos
  refine ⟨by simp [stP]; omega, fun c x hx => ?_⟩
  obtain ⟨hc, rfl⟩ := stP_get hx
  refine ⟨h.s0, h.s1, h.r0, h.r1, In.trim fun y hy => ?_, trim_trim _, ?_⟩
  · obtain ⟨z, _, rfl⟩ := List.mem_map.mp hy
    exact ⟨Int.emod_nonneg _ (by omega), Int.emod_lt_of_pos _ hp0⟩
  · show (ati (trim _) 0 + s * (c : Int)) % p = 0
    rw [ati_trim, scl_at, h.hd, Int.mul_emod, Int.emod_emod, ← Int.mul_emod, Int.add_emod, Int.emod_emod, ← Int.add_emod, ← Int.add_mul, show 0 - s + s = 0 by omega, Int.zero_mul]
    exact Int.zero_emod p
theorem stP_len {p s r : Int} {e : List Int} {cap : Nat} (h : e.length ≤ cap) : ∀ x ∈ stP p s r e, x.2.2.length ≤ cap := fun x hx => by
  obtain ⟨c, _, rfl⟩ := List.mem_map.mp hx
  have := trim_len (e.map fun x => x * (c : Int) % p)
  rw [List.length_map] at this
  exact Nat.le_trans this h
theorem scl_trim {p : Int} {e : List Int} {c : Int} : trim ((trim e).map fun x => x * c % p) = trim (e.map fun x => x * c % p) := trim_ext fun k => by rw [scl_at, scl_at, ati_trim]
theorem stP_map {p s r : Int} {e : List Int} : (stP p s r e).map pgD = (List.range p.toNat).map fun c : Nat => D.tup [.int s, .int r, tI (trim (e.map fun x => x * (c : Int) % p))] := by
  unfold stP
  rw [List.map_map]; rfl
def sp__law_straight_pages : DSp := fun xs M Q _ => ∃ (t : Addr) (M0 : HM) (cells : List Int) (s l : Int) (B : Nat) (p cap : Int), xs = [.ref t, .int p, .int cap] ∧ M = mup M0 t (tp cells s l) ∧ TpOk cells s l B ∧ Pr p ∧ 0 < cap ∧ cap ≤ 900 ∧ B + 30000 ≤ 1000000 ∧
  ∀ sx rx e s' l', StOk p sx rx e → (e.length : Int) ≤ cap → TpOk cells s' l' (B + (10 * cap.toNat + 30)) → Q (.lst ((stP p sx rx e).map pgD)) (mup M0 t (tp cells s' l'))
def b__law_straight_pages : DTS := (dSeq (dAsg (dTup (dCons (dOp fAdd (dC (.int 1)) (dCall sp__law_draw (dCons (dVar 0) (dCons (dOp fSub (dVar 1) (dC (.int 1))) dNil)))) (dCons (dCall sp__law_draw (dCons (dVar 0) (dCons (dVar 1) dNil))) dNil))) (dgTup 2 (dgCons (dgName 3) (dgCons (dgName 4) dgNil)))) (dSeq (dAsg (dOp fAdd (dTup (dCons (dOp fMod (dOp fSub (dC (.int 0)) (dVar 3)) (dVar 1)) dNil)) (dCall sp__law_beads (dCons (dVar 0) (dCons (dVar 1) (dCons (dCall sp__law_draw (dCons (dVar 0) (dCons (dVar 2) dNil))) dNil))))) (dgName 5)) (dRet (dComp (dIRng1 (dCons (dVar 1) dNil)) (tgN 6) dYes (dTup (dCons (dVar 3) (dCons (dVar 4) (dCons (dCall sp__law_cut (dCons (dComp (dISeq (dVar 5)) (tgN 7) dYes (dOp fMod (dOp fMul (dVar 7) (dVar 6)) (dVar 1)) [7]) dNil)) dNil)))) [6]))))
theorem hd__law_straight_pages : ∀ (xs : List D) (M : HM) (Q : DK) (E : XDK), sp__law_straight_pages xs M Q E → xs.length = (["_law_tape", "_law_p", "_law_size"] : List Str).length ∧ b__law_straight_pages (ends Q E) (startD (["_law_tape", "_law_p", "_law_size", "_law_s", "_law_r", "_law_row", "_law_c", "_law_bead"] : List Str).length xs) M := by
  rintro xs M Q E ⟨t, M0, cells, s, l, B, p, cap, rfl, rfl, ok, hp, c0, c1, hB, q⟩
  refine ⟨rfl, ?_⟩
  have hp0 := hp.pos
  have hp5 := hp.le
  simp only [startD, List.map_cons, List.map_nil, List.length_cons, List.length_nil, List.replicate, List.cons_append, List.nil_append, Nat.zero_add, Nat.reduceAdd, Nat.reduceSub]
  simp only [b__law_straight_pages, dNext, dSeq, dDrop, dRet, dRetN, dIf, dCall, dCB, dCBK, dCons, dNil, dVar, dC, dOp, dB, dTru, dAndT, dOrT, dNotT, dAndV, dOrV, dNotV, dIfE, dChain, dTup, dLst, dSl, dPart, dNoPart, dgName, dgTup, dgCons, dgNil, dgSub, dAsg, dPar, dAug, dNeg, ends, fLt, fLe, fGt, fGe, fSub, fMod, fDiv, fPow, iAddI, iSubI, ii, fInt, fMax2, fMin2, fLen, fTuple, fList, List.length_cons, List.length_nil, startD, List.replicate, List.cons_append, List.nil_append, List.append_nil, Nat.zero_add, Nat.reduceAdd, Nat.reduceSub, List.getElem?_cons_succ, List.getElem?_cons_zero, List.set_cons_zero, List.set_cons_succ, wipeD, dFld, dFldSet, dMeth, dMake, dIsO, dFmt, dJs, dStep, dRaise0, iDivI, iModI, iMulI, dRaiseX, dMeth2, dIsi2]
  refine ⟨t, _, cells, s, l, B, p - 1, rfl, rfl, ok, by omega, by rcases hp with h | h | h <;> omega, by have : (5 : Int) ≤ 10 ^ 100 := (by decide +kernel); omega, fun sx s l s0 s1 ok => fAdd_int ?_⟩
  refine ⟨t, _, cells, s, l, _, p, rfl, rfl, ok, by omega, hp0, by have : (5 : Int) ≤ 10 ^ 100 := (by decide +kernel); omega, fun rx s l r0 r1 ok => ⟨by simp, ?_⟩⟩
  refine ⟨_, rfl, rfl, rfl, hp0, by decide, ?_⟩
  refine ⟨t, _, cells, s, l, _, cap, rfl, rfl, ok, by omega, c0, by have : (900 : Int) ≤ 10 ^ 100 := (by decide +kernel); omega, fun m s l m0 m1 ok => ?_⟩
  refine ⟨t, _, cells, s, l, _, p, m, rfl, rfl, ok, hp0, by omega, m0, by omega, by omega, fun bs s l lbs ibs ok => ?_⟩
  refine fAdd_tup (ys := dI bs) (by simp; omega) ?_
  generalize hh : (0 - (1 + sx)) % p = h0
  have h00 : 0 ≤ h0 := by rw [← hh]; exact Int.emod_nonneg _ (by omega)
  have h01 : h0 < p := by rw [← hh]; exact Int.emod_lt_of_pos _ hp0
  have ih : ∀ x ∈ h0 :: bs, 0 ≤ x ∧ x < p := fun x hx => by
    rcases List.mem_cons.mp hx with h | h
    · subst h; exact ⟨h00, h01⟩
    · exact ibs x h
  have so : StOk p (1 + sx) rx (trim (h0 :: bs)) := ⟨by omega, by omega, r0, r1, In.trim ih, trim_trim _, by rw [ati_trim, hh]; rfl⟩
  refine comp_rng (n := p) (g := fun c => .tup [.int (1 + sx), .int rx, tI (trim ((h0 :: bs).map fun x => x * (c : Int) % p))]) (fun Q' q' => q') (by omega) (by omega) (fun c hc Q' q' => ?_) ?_
  · simp only [dNext, dSeq, dDrop, dRet, dRetN, dIf, dCall, dCB, dCBK, dCons, dNil, dVar, dC, dOp, dB, dTru, dAndT, dOrT, dNotT, dAndV, dOrV, dNotV, dIfE, dChain, dTup, dLst, dSl, dPart, dNoPart, dgName, dgTup, dgCons, dgNil, dgSub, dAsg, dPar, dAug, dNeg, ends, fLt, fLe, fGt, fGe, fSub, fMod, fDiv, fPow, iAddI, iSubI, ii, fInt, fMax2, fMin2, fLen, fTuple, fList, List.length_cons, List.length_nil, startD, List.replicate, List.cons_append, List.nil_append, List.append_nil, Nat.zero_add, Nat.reduceAdd, Nat.reduceSub, List.getElem?_cons_succ, List.getElem?_cons_zero, List.set_cons_zero, List.set_cons_succ, wipeD, dFld, dFldSet, dMeth, dMake, dIsO, dFmt, dJs, dStep, dRaise0, iDivI, iModI, iMulI, dRaiseX, dMeth2, dIsi2]
    refine comp_ints (ns := h0 :: bs) (g := fun x => .int (x * (c : Int) % p)) (x := tI (h0 :: bs)) rfl (fun Q' q' => q') (by simp; omega) (fun x hx Q' q' => ?_) ?_
    · have := ih x hx
      simp only [dNext, dSeq, dDrop, dRet, dRetN, dIf, dCall, dCB, dCBK, dCons, dNil, dVar, dC, dOp, dB, dTru, dAndT, dOrT, dNotT, dAndV, dOrV, dNotV, dIfE, dChain, dTup, dLst, dSl, dPart, dNoPart, dgName, dgTup, dgCons, dgNil, dgSub, dAsg, dPar, dAug, dNeg, ends, fLt, fLe, fGt, fGe, fSub, fMod, fDiv, fPow, iAddI, iSubI, ii, fInt, fMax2, fMin2, fLen, fTuple, fList, List.length_cons, List.length_nil, startD, List.replicate, List.cons_append, List.nil_append, List.append_nil, Nat.zero_add, Nat.reduceAdd, Nat.reduceSub, List.getElem?_cons_succ, List.getElem?_cons_zero, List.set_cons_zero, List.set_cons_succ, wipeD, dFld, dFldSet, dMeth, dMake, dIsO, dFmt, dJs, dStep, dRaise0, iDivI, iModI, iMulI, dRaiseX, dMeth2, dIsi2]
      exact ⟨⟨big200 (by omega), big200 (by omega)⟩, hp0, q'⟩
    · refine ⟨.lst ((h0 :: bs).map fun x => .int (x * (c : Int) % p)), (h0 :: bs).map fun x => x * (c : Int) % p, rfl, .inr (by simp [dI]), by simp; omega, by simp, q'⟩
  · have e : (List.range p.toNat).map (fun c : Nat => D.tup [.int (1 + sx), .int rx, tI (trim ((h0 :: bs).map fun x => x * (c : Int) % p))]) = (stP p (1 + sx) rx (trim (h0 :: bs))).map pgD := by
      rw [stP_map]
      refine List.map_congr_left fun c _ => ?_
      rw [scl_trim]
    rw [e]
    have := trim_len (h0 :: bs)
    rw [List.length_cons] at this
    exact .here (q _ _ _ _ _ so (by omega) (ok.mono (by omega)))
def sp__law_some_pages : DSp := fun xs M Q _ => ∃ (t : Addr) (M0 : HM) (cells : List Int) (s l : Int) (B : Nat) (p cap : Int), xs = [.ref t, .int p, .int cap] ∧ M = mup M0 t (tp cells s l) ∧ TpOk cells s l B ∧ Pr p ∧ 0 < cap ∧ cap ≤ 900 ∧ B + 40000 ≤ 1000000 ∧
  ∀ g s' l', Bk p g → (∀ x ∈ g, (x.2.2.length : Int) ≤ cap) → TpOk cells s' l' (B + (10 * cap.toNat + 31)) → Q (.lst (g.map pgD)) (mup M0 t (tp cells s' l'))
def b__law_some_pages : DTS := (dSeq (dIf (dB (dOp fEq (dCall sp__law_draw (dCons (dVar 0) (dCons (dC (.int 4)) dNil))) (dC (.int 0)))) (dRet (dCall sp__law_straight_pages (dCons (dVar 0) (dCons (dVar 1) (dCons (dVar 2) dNil))))) dNext) (dRet (dCall sp__law_pages (dCons (dVar 0) (dCons (dVar 1) (dCons (dVar 2) dNil))))))
theorem hd__law_some_pages : ∀ (xs : List D) (M : HM) (Q : DK) (E : XDK), sp__law_some_pages xs M Q E → xs.length = (["_law_tape", "_law_p", "_law_size"] : List Str).length ∧ b__law_some_pages (ends Q E) (startD (["_law_tape", "_law_p", "_law_size"] : List Str).length xs) M := by
  rintro xs M Q E ⟨t, M0, cells, s, l, B, p, cap, rfl, rfl, ok, hp, c0, c1, hB, q⟩
  refine ⟨rfl, ?_⟩
  simp only [startD, List.map_cons, List.map_nil, List.length_cons, List.length_nil, List.replicate, List.cons_append, List.nil_append, Nat.zero_add, Nat.reduceAdd, Nat.reduceSub]
  simp only [b__law_some_pages, dNext, dSeq, dDrop, dRet, dRetN, dIf, dCall, dCB, dCBK, dCons, dNil, dVar, dC, dOp, dB, dTru, dAndT, dOrT, dNotT, dAndV, dOrV, dNotV, dIfE, dChain, dTup, dLst, dSl, dPart, dNoPart, dgName, dgTup, dgCons, dgNil, dgSub, dAsg, dPar, dAug, dNeg, ends, fLt, fLe, fGt, fGe, fSub, fMod, fDiv, fPow, iAddI, iSubI, ii, fInt, fMax2, fMin2, fLen, fTuple, fList, List.length_cons, List.length_nil, startD, List.replicate, List.cons_append, List.nil_append, List.append_nil, Nat.zero_add, Nat.reduceAdd, Nat.reduceSub, List.getElem?_cons_succ, List.getElem?_cons_zero, List.set_cons_zero, List.set_cons_succ, wipeD, dFld, dFldSet, dMeth, dMake, dIsO, dFmt, dJs, dStep, dRaise0, iDivI, iModI, iMulI, dRaiseX, dMeth2, dIsi2]
  refine ⟨t, _, cells, s, l, B, 4, rfl, rfl, ok, by omega, by decide, by decide, fun k s l k0 k1 ok => eq_int ⟨fun _ => ?_, fun _ => ?_⟩⟩
  · refine ⟨t, _, cells, s, l, _, p, cap, rfl, rfl, ok, hp, c0, c1, by omega, fun sx rx e s l so le ok => .here (q _ _ _ (stP_bk hp so) (fun x hx => ?_) (ok.mono (by omega)))⟩
    have := stP_len (cap := cap.toNat) (by omega) x hx
    omega
  · exact ⟨t, _, cells, s, l, _, p, cap, rfl, rfl, ok, hp, c0, c1, by omega, fun g s l hb hc ok => .here (q _ _ _ hb hc (ok.mono (by omega)))⟩
/-! ### the plain book -/
def plP (p : Int) : List Pg := stP p 1 0 [p - 1]
theorem plP_ok {p : Int} (hp : Pr p) : StOk p 1 0 [p - 1] := by
  have hp0 := hp.pos
  have h2 : 2 ≤ p := by rcases hp with h | h | h <;> omega
  refine ⟨by decide, by omega, by decide, hp0, fun x hx => ?_, ?_, ?_⟩
  · rw [List.mem_singleton.mp hx]; omega
  · show trim ([] ++ [p - 1]) = _
    rw [trim_snoc, if_neg (by omega)]; rfl
  · show p - 1 = (0 - 1) % p
    rcases hp with h | h | h <;> subst h <;> decide
def sp_plain : DSp := fun xs M Q E => ∃ x, xs = [x] ∧ isD x = true ∧ (isP' x = false → E ⟨"NoBook", [("colour", .non)]⟩ M) ∧ ∀ p, x = .int p → Pr p → Q (bookD p (plP p)) M
def b_plain : DTS := (dSeq (dIf (dNotT (dTru (dCall sp_is_prime (dCons (dVar 0) dNil)))) (dRaiseX "NoBook" "colour" (dCons (dC .non) dNil)) dNext) (dRet (dMake "Book" sp_Book___init__ [] (dCons (dVar 0) (dCons (dComp (dIRng1 (dCons (dVar 0) dNil)) (tgN 1) dYes (dTup (dCons (dC (.int 1)) (dCons (dC (.int 0)) (dCons (dCall sp_trimmed (dCons (dLst (dCons (dOp fMod (dOp fSub (dVar 0) (dVar 1)) (dVar 0)) dNil)) dNil)) dNil)))) [1]) dNil)))))
theorem hd_plain : ∀ (xs : List D) (M : HM) (Q : DK) (E : XDK), sp_plain xs M Q E → xs.length = (["prime"] : List Str).length ∧ b_plain (ends Q E) (startD (["prime", "colour"] : List Str).length xs) M := by
  rintro xs M Q E ⟨x, rfl, dx, qe, q⟩
  refine ⟨rfl, ?_⟩
  simp only [startD, List.map_cons, List.map_nil, List.length_cons, List.length_nil, List.replicate, List.cons_append, List.nil_append, Nat.zero_add, Nat.reduceAdd, Nat.reduceSub]
  simp only [b_plain, dNext, dSeq, dDrop, dRet, dRetN, dIf, dCall, dCB, dCBK, dCons, dNil, dVar, dC, dOp, dB, dTru, dAndT, dOrT, dNotT, dAndV, dOrV, dNotV, dIfE, dChain, dTup, dLst, dSl, dPart, dNoPart, dgName, dgTup, dgCons, dgNil, dgSub, dAsg, dPar, dAug, dNeg, ends, fLt, fLe, fGt, fGe, fSub, fMod, fDiv, fPow, iAddI, iSubI, ii, fInt, fMax2, fMin2, fLen, fTuple, fList, List.length_cons, List.length_nil, startD, List.replicate, List.cons_append, List.nil_append, List.append_nil, Nat.zero_add, Nat.reduceAdd, Nat.reduceSub, List.getElem?_cons_succ, List.getElem?_cons_zero, List.set_cons_zero, List.set_cons_succ, wipeD, dFld, dFldSet, dMeth, dMake, dIsO, dFmt, dJs, dStep, dRaise0, iDivI, iModI, iMulI, dRaiseX, dMeth2, dIsi2, dRaiseX]
  refine ⟨x, rfl, dx, ?_⟩
  simp only [tru]
  refine ⟨fun h => ?_, fun h => ?_⟩
  · exact ⟨M, fun _ _ => rfl, qe (by simpa using h)⟩
  · obtain ⟨p, rfl⟩ : ∃ p, x = .int p := by
      cases x <;> simp [isP'] at h
      exact ⟨_, rfl⟩
    have hp : Pr p := by simpa [isP'] using h
    have hp0 := hp.pos
    have hp5 := hp.le
    refine comp_rng (n := p) (g := fun c => .tup [.int 1, .int 0, tI (trim [(p - (c : Int)) % p])]) (fun Q' q' => q') (by omega) (by omega) (fun c hc Q' q' => ?_) ?_
    · simp only [dNext, dSeq, dDrop, dRet, dRetN, dIf, dCall, dCB, dCBK, dCons, dNil, dVar, dC, dOp, dB, dTru, dAndT, dOrT, dNotT, dAndV, dOrV, dNotV, dIfE, dChain, dTup, dLst, dSl, dPart, dNoPart, dgName, dgTup, dgCons, dgNil, dgSub, dAsg, dPar, dAug, dNeg, ends, fLt, fLe, fGt, fGe, fSub, fMod, fDiv, fPow, iAddI, iSubI, ii, fInt, fMax2, fMin2, fLen, fTuple, fList, List.length_cons, List.length_nil, startD, List.replicate, List.cons_append, List.nil_append, List.append_nil, Nat.zero_add, Nat.reduceAdd, Nat.reduceSub, List.getElem?_cons_succ, List.getElem?_cons_zero, List.set_cons_zero, List.set_cons_succ, wipeD, dFld, dFldSet, dMeth, dMake, dIsO, dFmt, dJs, dStep, dRaise0, iDivI, iModI, iMulI, dRaiseX, dMeth2, dIsi2]
      refine ⟨hp0, by decide, _, [(p - (c : Int)) % p], rfl, rfl, by simp, q'⟩
    · have e : (List.range p.toNat).map (fun c : Nat => D.tup [.int 1, .int 0, tI (trim [(p - (c : Int)) % p])]) = (plP p).map pgD := by
        rw [plP, stP_map]
        refine List.map_congr_left fun c _ => ?_
        have e2 : (p - (c : Int)) % p = (p - 1) * (c : Int) % p := by
          rw [Int.sub_mul, Int.one_mul, Int.sub_emod, Int.emod_self, Int.sub_emod (p * (c : Int)), Int.mul_emod_right]
        rw [e2]; rfl
      rw [e]
      refine mk_book hp (stP_bk hp (plP_ok hp)) (fun x hx => ?_) (.inr rfl) ?_
      · exact stP_len (cap := 5000) (by simp) x hx
      · exact .here (q p rfl hp)
/-! ### pages compared -/
theorem toPys_pg : ∀ l : List Pg, toPys (l.map pgD) = l.map fun x => PyData.tuple [.int x.1, .int x.2.1, .tuple (x.2.2.map PyData.int)]
  | [] => rfl
  | x :: l => by
    show toPy (pgD x) :: toPys (l.map pgD) = _
    rw [toPys_pg l]
    show PyData.tuple [.int x.1, .int x.2.1, .tuple (toPys (dI x.2.2))] :: _ = _
    rw [toPys_dI]; rfl
theorem isD_pg (x : Pg) : isD (pgD x) = true := by
  show (true && (true && (isDs (dI x.2.2) && true))) = true
  rw [isDs_dI]; rfl
theorem isDs_pg : ∀ l : List Pg, isDs (l.map pgD) = true
  | [] => rfl
  | x :: l => by show (isD (pgD x) && isDs (l.map pgD)) = true; rw [isDs_pg l, isD_pg]; rfl
theorem depth_pg (x : Pg) : (toPy (pgD x)).depth = 2 := by
  show max 0 (max 0 (max (PyData.depthAll (toPys (dI x.2.2)) + 1) 0)) + 1 = 2
  rw [toPys_dI, depth_ints]; rfl
theorem depths_pg : ∀ l : List Pg, PyData.depthAll (toPys (l.map pgD)) ≤ 2
  | [] => Nat.zero_le _
  | x :: l => by
    show max (toPy (pgD x)).depth (PyData.depthAll (toPys (l.map pgD))) ≤ 2
    have := depths_pg l
    rw [depth_pg]; omega
theorem okD_pg (x : Pg) : okD (pgD x) = true := by
  unfold okD
  rw [isD_pg, depth_pg]; rfl
theorem okD_pgs (l : List Pg) : okD (.lst (l.map pgD)) = true := by
  unfold okD
  have h2 : (toPy (.lst (l.map pgD))).depth ≤ 64 := by
    show PyData.depthAll (toPys (l.map pgD)) + 1 ≤ 64
    have := depths_pg l
    omega
  rw [show isD (.lst (l.map pgD)) = true from isDs_pg l, decide_eq_true h2]; rfl
theorem eqv_pg (x y : Pg) : eqD (pgD x) (pgD y) = decide (x = y) := by
  obtain ⟨s, r, e⟩ := x
  obtain ⟨s', r', e'⟩ := y
  show (s == s' && (r == r' && (PyData.eqvAll (toPys (dI e)) (toPys (dI e')) && true))) = _
  rw [toPys_dI, toPys_dI, eqv_ints]
  by_cases h1 : s = s' <;> by_cases h2 : r = r' <;> by_cases h3 : e = e' <;> simp [h1, h2, h3]
theorem eqv_pgs : ∀ l m : List Pg, PyData.eqvAll (toPys (l.map pgD)) (toPys (m.map pgD)) = decide (l = m)
  | [], [] => rfl
  | [], _ :: _ => rfl
  | _ :: _, [] => rfl
  | x :: l, y :: m => by
    show (eqD (pgD x) (pgD y) && PyData.eqvAll (toPys (l.map pgD)) (toPys (m.map pgD))) = _
    rw [eqv_pgs l m, eqv_pg]
    by_cases h : x = y <;> by_cases h2 : l = m <;> simp [h, h2]
theorem eq_pgs {l m : List Pg} {M : HM} {Q : DK} (q : Q (.bl (decide (l = m))) M) : fEq (.lst (l.map pgD)) (.lst (m.map pgD)) M Q := by
  refine .inl ⟨okD_pgs l, okD_pgs m, ?_⟩
  have e : eqD (rd M (.lst (l.map pgD))) (rd M (.lst (m.map pgD))) = decide (l = m) := eqv_pgs l m
  rw [e]; exact q
theorem eq_pg {x y : Pg} {M : HM} {Q : DK} (q : Q (.bl (decide (x = y))) M) : fEq (pgD x) (pgD y) M Q := by
  refine .inl ⟨okD_pg x, okD_pg y, ?_⟩
  have e : eqD (rd M (pgD x)) (rd M (pgD y)) = decide (x = y) := eqv_pg x y
  rw [e]; exact q
theorem ne_pg {x y : Pg} {M : HM} {Q : DK} (q : Q (.bl (!decide (x = y))) M) : fNe (pgD x) (pgD y) M Q := by
  refine .inl ⟨okD_pg x, okD_pg y, ?_⟩
  have e : eqD (rd M (pgD x)) (rd M (pgD y)) = decide (x = y) := eqv_pg x y
  rw [e]; exact q
/-! ### straight -/
def stD (p : Int) (l : List Pg) : D := if l = stP p (pgAt l 1).1 (pgAt l 1).2.1 (pgAt l 1).2.2 then pgD (pgAt l 1) else .non
def sp_straight : DSp := fun xs M Q _ => ∃ p l, xs = [bookD p l] ∧ Pr p ∧ Bk p l ∧ (∀ x ∈ l, x.2.2.length ≤ 5000) ∧ Q (stD p l) M
def b_straight : DTS := (dSeq (dAsg (dMeth "Book" "pages" sp_Book_pages [] (dVar 0) dNil) (dgName 1)) (dSeq (dAsg (dOp fIx (dVar 1) (dC (.int 1))) (dgTup 3 (dgCons (dgName 2) (dgCons (dgName 3) (dgCons (dgName 4) dgNil))))) (dSeq (dAsg (dComp (dIRng1 (dCons (dMeth "Book" "prime" sp_Book_prime [] (dVar 0) dNil) dNil)) (tgN 6) dYes (dTup (dCons (dVar 2) (dCons (dVar 3) (dCons (dCall sp_scaled (dCons (dMeth "Book" "prime" sp_Book_prime [] (dVar 0) dNil) (dCons (dVar 4) (dCons (dVar 6) dNil)))) dNil)))) [6]) (dgName 5)) (dRet (dIfE (dB (dOp fEq (dVar 1) (dVar 5))) (dTup (dCons (dVar 2) (dCons (dVar 3) (dCons (dVar 4) dNil)))) (dC .non))))))
theorem hd_straight : ∀ (xs : List D) (M : HM) (Q : DK) (E : XDK), sp_straight xs M Q E → xs.length = (["book"] : List Str).length ∧ b_straight (ends Q E) (startD (["book", "pages", "s", "r", "addend", "due", "colour"] : List Str).length xs) M := by
  rintro xs M Q E ⟨p, l, rfl, hp, hb, hc, q⟩
  refine ⟨rfl, ?_⟩
  have hp0 := hp.pos
  have hp5 := hp.le
  simp only [startD, List.map_cons, List.map_nil, List.length_cons, List.length_nil, List.replicate, List.cons_append, List.nil_append, Nat.zero_add, Nat.reduceAdd, Nat.reduceSub]
  simp only [b_straight, dNext, dSeq, dDrop, dRet, dRetN, dIf, dCall, dCB, dCBK, dCons, dNil, dVar, dC, dOp, dB, dTru, dAndT, dOrT, dNotT, dAndV, dOrV, dNotV, dIfE, dChain, dTup, dLst, dSl, dPart, dNoPart, dgName, dgTup, dgCons, dgNil, dgSub, dAsg, dPar, dAug, dNeg, ends, fLt, fLe, fGt, fGe, fSub, fMod, fDiv, fPow, iAddI, iSubI, ii, fInt, fMax2, fMin2, fLen, fTuple, fList, List.length_cons, List.length_nil, startD, List.replicate, List.cons_append, List.nil_append, List.append_nil, Nat.zero_add, Nat.reduceAdd, Nat.reduceSub, List.getElem?_cons_succ, List.getElem?_cons_zero, List.set_cons_zero, List.set_cons_succ, wipeD, dFld, dFldSet, dMeth, dMake, dIsO, dFmt, dJs, dStep, dRaise0, iDivI, iModI, iMulI, dRaiseX, dMeth2, dIsi2]
  obtain ⟨hx, ok, hm⟩ := hb.at (c := 1) (by decide) (by rcases hp with h | h | h <;> omega)
  have lx := hc _ hm
  refine ⟨_, ob_book, nkb_pages, _, _, rfl, pgD (pgAt l 1), by rw [ix_lst]; exact atI_pg (by decide) hx, _, rfl, rfl, rfl, ?_⟩
  refine comp_rng (n := p) (g := fun c => .tup [.int (pgAt l 1).1, .int (pgAt l 1).2.1, tI (trim ((pgAt l 1).2.2.map fun x => x * (c : Int) % p))]) (fun Q' q' => ⟨_, ob_book, nkb_prime, _, _, rfl, q'⟩) (by omega) (by omega) (fun c hc Q' q' => ?_) ?_
  · simp only [dNext, dSeq, dDrop, dRet, dRetN, dIf, dCall, dCB, dCBK, dCons, dNil, dVar, dC, dOp, dB, dTru, dAndT, dOrT, dNotT, dAndV, dOrV, dNotV, dIfE, dChain, dTup, dLst, dSl, dPart, dNoPart, dgName, dgTup, dgCons, dgNil, dgSub, dAsg, dPar, dAug, dNeg, ends, fLt, fLe, fGt, fGe, fSub, fMod, fDiv, fPow, iAddI, iSubI, ii, fInt, fMax2, fMin2, fLen, fTuple, fList, List.length_cons, List.length_nil, startD, List.replicate, List.cons_append, List.nil_append, List.append_nil, Nat.zero_add, Nat.reduceAdd, Nat.reduceSub, List.getElem?_cons_succ, List.getElem?_cons_zero, List.set_cons_zero, List.set_cons_succ, wipeD, dFld, dFldSet, dMeth, dMake, dIsO, dFmt, dJs, dStep, dRaise0, iDivI, iModI, iMulI, dRaiseX, dMeth2, dIsi2]
    refine ⟨_, ob_book, nkb_prime, _, _, rfl, p, (c : Int), _, rfl, hp0, by omega, In.bd ok.ie (by omega), by omega, by simp, q'⟩
  · rw [← stP_map]
    refine eq_pgs ?_
    dsimp only
    refine ⟨fun h => ⟨by decide, ?_⟩, fun h => ?_⟩
    · have h := of_decide_eq_true h
      refine .here ?_
      have : stD p l = pgD (pgAt l 1) := by unfold stD; rw [if_pos h]
      rw [this] at q
      exact q
    · have h := of_decide_eq_false h
      have : stD p l = .non := by unfold stD; rw [if_neg h]
      rw [this] at q
      exact .here q
theorem stP_at {p s r : Int} {e : List Int} (hp : Pr p) (h : StOk p s r e) : pgAt (stP p s r e) 1 = (s, r, e) := by
  have h1 : (stP p s r e)[(1 : Int).toNat]? = some (s, r, trim (e.map fun x => x * ((1 : Nat) : Int) % p)) := by
    unfold stP
    rw [List.getElem?_map, show (1 : Int).toNat = 1 from rfl, List.getElem?_range (by rcases hp with h | h | h <;> subst h <;> decide)]
    rfl
  rw [pgAt_of h1]
  have e2 : (e.map fun x => x * ((1 : Nat) : Int) % p) = e := by
    conv => rhs; rw [← List.map_id e]
    refine List.map_congr_left fun x hx => ?_
    have := h.ie x hx
    show x * 1 % p = x
    rw [Int.mul_one, Int.emod_eq_of_lt this.1 this.2]
  rw [e2, show trim e = e from h.te]
theorem stD_of {p s r : Int} {e : List Int} (hp : Pr p) (h : StOk p s r e) : stD p (stP p s r e) = pgD (s, r, e) := by
  unfold stD
  rw [stP_at hp h, if_pos rfl]
end DL

set_option Elab.async false
set_option linter.all false
set_option maxRecDepth 100000
set_option maxHeartbeats 400000
namespace DL
open PySem PySem.Spec PyProof.Rows L2
open PySem.W (Frag)
variable [TB]
theorem fSl_lst {ds : List D} {lo hi : Option Int} {M : HM} {Q : DK} (q : Q (.lst (cutG ds lo hi)) M) : fSl (.lst ds) lo hi M Q := q
theorem rep_intZ (k : Int) (c : Int) : repD k [D.int c] = dI (List.replicate k.toNat c) := by
  have : repD k [D.int c] = repD ((k.toNat : Nat) : Int) [D.int c] := by unfold repD; rw [Int.toNat_natCast]
  rw [this, rep_int]
theorem Bk.set {p : Int} {l : List Pg} (hb : Bk p l) {c : Nat} {y : Pg} (hc : (c : Int) < p) (ok : PgOk p (c : Int) y) : Bk p (l.take c ++ [y] ++ l.drop (c + 1)) := by
  have hl := hb.len
  refine ⟨by simp only [List.length_append, List.length_take, List.length_drop, List.length_singleton]; omega, fun j x hj => ?_⟩
  rw [List.append_assoc, List.getElem?_append, List.length_take] at hj
  split at hj
  · rename_i h
    rw [List.getElem?_take_of_lt (by omega)] at hj
    exact hb.ok j x hj
  · rename_i h
    by_cases e : j = c
    · subst e
      rw [Nat.min_eq_left (by omega), Nat.sub_self] at hj
      cases hj
      exact ok
    · rw [Nat.min_eq_left (by omega), show j - c = (j - c - 1) + 1 by omega, List.singleton_append, List.getElem?_cons_succ, List.getElem?_drop] at hj
      rw [show c + 1 + (j - c - 1) = j by omega] at hj
      exact hb.ok j x hj
theorem set_len {l : List Pg} {c : Nat} {y : Pg} {cap : Nat} (h : ∀ x ∈ l, x.2.2.length ≤ cap) (hy : y.2.2.length ≤ cap) : ∀ x ∈ l.take c ++ [y] ++ l.drop (c + 1), x.2.2.length ≤ cap := fun x hx => by
  simp only [List.mem_append, List.mem_singleton] at hx
  rcases hx with (hx | hx) | hx
  · exact h x (List.mem_of_mem_take hx)
  · rw [hx]; exact hy
  · exact h x (List.mem_of_mem_drop hx)
def sp__law_bent : DSp := fun xs M Q _ => ∃ (t : Addr) (M0 : HM) (cells : List Int) (s l : Int) (B : Nat) (p : Int) (g : List Pg) (cap : Nat), xs = [.ref t, .int p, .lst (g.map pgD)] ∧ M = mup M0 t (tp cells s l) ∧ TpOk cells s l B ∧ Pr p ∧ Bk p g ∧ (∀ x ∈ g, x.2.2.length ≤ cap) ∧ cap ≤ 900 ∧ B + 100 ≤ 1000000 ∧
  ∀ g' s' l', Bk p g' → (∀ x ∈ g', x.2.2.length ≤ cap + 20) → TpOk cells s' l' (B + 10) → Q (.lst (g'.map pgD)) (mup M0 t (tp cells s' l'))
def b__law_bent : DTS := (dSeq (dPar 3 4 (dCons (dCall sp__law_draw (dCons (dVar 0) (dCons (dVar 1) dNil))) (dCons (dCall sp__law_draw (dCons (dVar 0) (dCons (dC (.int 4)) dNil))) dNil))) (dSeq (dAsg (dOp fIx (dVar 2) (dVar 3)) (dgTup 3 (dgCons (dgName 5) (dgCons (dgName 6) (dgCons (dgName 7) dgNil))))) (dSeq (dIf (dB (dOp fEq (dVar 4) (dC (.int 0)))) (dAsg (dOp fMod (dOp fAdd (dOp fAdd (dVar 6) (dC (.int 1))) (dCall sp__law_draw (dCons (dVar 0) (dCons (dOp fSub (dVar 1) (dC (.int 1))) dNil)))) (dVar 1)) (dgName 6)) (dIf (dB (dOp fEq (dVar 4) (dC (.int 1)))) (dSeq (dAsg (dOp fAdd (dC (.int 1)) (dCall sp__law_draw (dCons (dVar 0) (dCons (dOp fSub (dVar 1) (dC (.int 1))) dNil)))) (dgName 5)) (dAsg (dCall sp__law_cut (dCons (dOp fAdd (dTup (dCons (dOp fMod (dOp fSub (dC (.int 0)) (dOp fMul (dVar 5) (dVar 3))) (dVar 1)) dNil)) (dSl (dVar 7) (dPart (dC (.int 1))) dNoPart)) dNil)) (dgName 7))) (dSeq (dAsg (dOp fAdd (dC (.int 1)) (dCall sp__law_draw (dCons (dVar 0) (dCons (dC (.int 8)) dNil)))) (dgName 8)) (dSeq (dAsg (dOp fAdd (dVar 7) (dOp fMul (dTup (dCons (dC (.int 0)) dNil)) (dOp fSub (dOp fAdd (dVar 8) (dC (.int 1))) (dCB fLen (dCons (dVar 7) dNil))))) (dgName 9)) (dAsg (dCall sp__law_cut (dCons (dOp fAdd (dOp fAdd (dSl (dVar 9) dNoPart (dPart (dVar 8))) (dTup (dCons (dOp fMod (dOp fAdd (dOp fAdd (dOp fIx (dVar 9) (dVar 8)) (dC (.int 1))) (dCall sp__law_draw (dCons (dVar 0) (dCons (dOp fSub (dVar 1) (dC (.int 1))) dNil)))) (dVar 1)) dNil))) (dSl (dVar 9) (dPart (dOp fAdd (dVar 8) (dC (.int 1)))) dNoPart)) dNil)) (dgName 7)))))) (dRet (dOp fAdd (dOp fAdd (dSl (dVar 2) dNoPart (dPart (dVar 3))) (dLst (dCons (dTup (dCons (dVar 5) (dCons (dVar 6) (dCons (dVar 7) dNil)))) dNil))) (dSl (dVar 2) (dPart (dOp fAdd (dVar 3) (dC (.int 1)))) dNoPart))))))
theorem hd__law_bent : ∀ (xs : List D) (M : HM) (Q : DK) (E : XDK), sp__law_bent xs M Q E → xs.length = (["_law_tape", "_law_p", "_law_pages_here"] : List Str).length ∧ b__law_bent (ends Q E) (startD (["_law_tape", "_law_p", "_law_pages_here", "_law_c", "_law_way", "_law_s", "_law_r", "_law_addend", "_law_at", "_law_wide"] : List Str).length xs) M := by
  rintro xs M Q E ⟨t, M0, cells, s, l, B, p, g, cap, rfl, rfl, ok, hp, hb, hcap, lcap, hB, q⟩
  refine ⟨rfl, ?_⟩
  have hp0 := hp.pos
  have hp5 := hp.le
  have h2 : 2 ≤ p := by rcases hp with h | h | h <;> omega
  have big5 : (5 : Int) ≤ 10 ^ 100 := by decide +kernel
  have lg := hb.len
  simp only [startD, List.map_cons, List.map_nil, List.length_cons, List.length_nil, List.replicate, List.cons_append, List.nil_append, Nat.zero_add, Nat.reduceAdd, Nat.reduceSub]
  simp only [b__law_bent, dNext, dSeq, dDrop, dRet, dRetN, dIf, dCall, dCB, dCBK, dCons, dNil, dVar, dC, dOp, dB, dTru, dAndT, dOrT, dNotT, dAndV, dOrV, dNotV, dIfE, dChain, dTup, dLst, dSl, dPart, dNoPart, dgName, dgTup, dgCons, dgNil, dgSub, dAsg, dPar, dAug, dNeg, ends, fLt, fLe, fGt, fGe, fSub, fMod, fDiv, fPow, iAddI, iSubI, ii, fInt, fMax2, fMin2, fLen, fTuple, fList, List.length_cons, List.length_nil, startD, List.replicate, List.cons_append, List.nil_append, List.append_nil, Nat.zero_add, Nat.reduceAdd, Nat.reduceSub, List.getElem?_cons_succ, List.getElem?_cons_zero, List.set_cons_zero, List.set_cons_succ, wipeD, dFld, dFldSet, dMeth, dMake, dIsO, dFmt, dJs, dStep, dRaise0, iDivI, iModI, iMulI, dRaiseX, dMeth2, dIsi2]
  refine ⟨t, _, cells, s, l, B, p, rfl, rfl, ok, by omega, hp0, by omega, fun c s l c0 c1 ok => ?_⟩
  refine ⟨t, _, cells, s, l, _, 4, rfl, rfl, ok, by omega, by decide, by decide, fun way s l w0 w1 ok => ?_⟩
  obtain ⟨C, rfl⟩ : ∃ C : Nat, c = (C : Int) := ⟨c.toNat, by omega⟩
  obtain ⟨hx, pok, hm⟩ := hb.at c0 c1
  have lx := hcap _ hm
  generalize hy : pgAt g (C : Int) = y at hx pok hm lx
  obtain ⟨sx, rx, e⟩ := y
  obtain ⟨s0, s1, r0, r1, ie, te, hd⟩ := pok
  dsimp only at s0 s1 r0 r1 ie te hd lx
  refine ⟨pgD (sx, rx, e), by rw [ix_lst]; exact atI_pg c0 hx, _, rfl, rfl, rfl, ?_⟩
  dsimp only
  -- the end
  have fin : ∀ (o8 o9 : Option DL.D) (s' r' : Int) (e' : List Int) s l, PgOk p (C : Int) (s', r', e') → e'.length ≤ cap + 20 → TpOk cells s l (B + 10) → (dRet (dOp fAdd (dOp fAdd (dSl (dVar 2) dNoPart (dPart (dVar 3))) (dLst (dCons (dTup (dCons (dVar 5) (dCons (dVar 6) (dCons (dVar 7) dNil)))) dNil))) (dSl (dVar 2) (dPart (dOp fAdd (dVar 3) (dC (.int 1)))) dNoPart))) (ends Q E) [some (.ref t), some (.int p), some (.lst (g.map pgD)), some (.int (C : Int)), some (.int way), some (.int s'), some (.int r'), some (tI e'), o8, o9] (mup M0 t (tp cells s l)) := fun o8 o9 s' r' e' s l pok le ok => by
    simp only [dNext, dSeq, dDrop, dRet, dRetN, dIf, dCall, dCB, dCBK, dCons, dNil, dVar, dC, dOp, dB, dTru, dAndT, dOrT, dNotT, dAndV, dOrV, dNotV, dIfE, dChain, dTup, dLst, dSl, dPart, dNoPart, dgName, dgTup, dgCons, dgNil, dgSub, dAsg, dPar, dAug, dNeg, ends, fLt, fLe, fGt, fGe, fSub, fMod, fDiv, fPow, iAddI, iSubI, ii, fInt, fMax2, fMin2, fLen, fTuple, fList, List.length_cons, List.length_nil, startD, List.replicate, List.cons_append, List.nil_append, List.append_nil, Nat.zero_add, Nat.reduceAdd, Nat.reduceSub, List.getElem?_cons_succ, List.getElem?_cons_zero, List.set_cons_zero, List.set_cons_succ, wipeD, dFld, dFldSet, dMeth, dMake, dIsO, dFmt, dJs, dStep, dRaise0, iDivI, iModI, iMulI, dRaiseX, dMeth2, dIsi2]
    refine fSl_lst ⟨by decide, by decide, ?_⟩
    rw [cutG_to (by omega) (by rw [List.length_map]; omega), Int.toNat_natCast]
    refine fAdd_lst (by simp; omega) (fAdd_int (fSl_lst ?_))
    rw [cutG_from (by omega) (by rw [List.length_map]; omega)]
    refine fAdd_lst (by simp; omega) ?_
    have e2 : List.take C (g.map pgD) ++ [D.tup [.int s', .int r', tI e']] ++ List.drop ((C : Int) + 1).toNat (g.map pgD) = (g.take C ++ [(s', r', e')] ++ g.drop (C + 1)).map pgD := by
      rw [show ((C : Int) + 1).toNat = C + 1 by omega]
      simp only [List.map_append, List.map_take, List.map_drop, List.map_cons, List.map_nil]
      rfl
    rw [e2]
    exact .here (q _ s l (hb.set c1 pok) (set_len (fun x hx => Nat.le_trans (hcap x hx) (by omega)) le) ok)
  simp only [dNext, dSeq, dDrop, dRet, dRetN, dIf, dCall, dCB, dCBK, dCons, dNil, dVar, dC, dOp, dB, dTru, dAndT, dOrT, dNotT, dAndV, dOrV, dNotV, dIfE, dChain, dTup, dLst, dSl, dPart, dNoPart, dgName, dgTup, dgCons, dgNil, dgSub, dAsg, dPar, dAug, dNeg, ends, fLt, fLe, fGt, fGe, fSub, fMod, fDiv, fPow, iAddI, iSubI, ii, fInt, fMax2, fMin2, fLen, fTuple, fList, List.length_cons, List.length_nil, startD, List.replicate, List.cons_append, List.nil_append, List.append_nil, Nat.zero_add, Nat.reduceAdd, Nat.reduceSub, List.getElem?_cons_succ, List.getElem?_cons_zero, List.set_cons_zero, List.set_cons_succ, wipeD, dFld, dFldSet, dMeth, dMake, dIsO, dFmt, dJs, dStep, dRaise0, iDivI, iModI, iMulI, dRaiseX, dMeth2, dIsi2] at fin
  have hb1 : 0 < p - 1 := by omega
  refine eq_int ⟨fun _ => ?_, fun _ => eq_int ⟨fun _ => ?_, fun _ => ?_⟩⟩
  · refine fAdd_int ⟨t, _, cells, s, l, _, p - 1, rfl, rfl, ok, by omega, hb1, by omega, fun d s l d0 d1 ok => fAdd_int ⟨hp0, ?_⟩⟩
    exact fin none none sx _ e s l ⟨s0, s1, Int.emod_nonneg _ (by omega), Int.emod_lt_of_pos _ hp0, ie, te, hd⟩ (by omega) (ok.mono (by omega))
  · refine ⟨t, _, cells, s, l, _, p - 1, rfl, rfl, ok, by omega, hb1, by omega, fun d s l d0 d1 ok => fAdd_int ?_⟩
    refine ⟨⟨big200 (by omega), big200 (by omega)⟩, hp0, by decide, fSl_tup ?_⟩
    rw [cutG_one, dI_drop]
    refine fAdd_tup (by simp; omega) ?_
    generalize hh : (0 - (1 + d) * (C : Int)) % p = h0
    have h00 : 0 ≤ h0 := by rw [← hh]; exact Int.emod_nonneg _ (by omega)
    have h01 : h0 < p := by rw [← hh]; exact Int.emod_lt_of_pos _ hp0
    have lt := trim_len (h0 :: e.drop 1)
    rw [List.length_cons, List.length_drop] at lt
    refine ⟨tI (h0 :: e.drop 1), h0 :: e.drop 1, rfl, .inl rfl, by simp; omega, ?_⟩
    refine fin none none (1 + d) rx _ s l ⟨by omega, by omega, r0, r1, In.trim fun x hx => ?_, trim_trim _, ?_⟩ (by omega) (ok.mono (by omega))
    · rcases List.mem_cons.mp hx with h | h
      · subst h; exact ⟨h00, h01⟩
      · exact ie x (List.mem_of_mem_drop h)
    · show (ati (trim (h0 :: e.drop 1)) 0 + (1 + d) * (C : Int)) % p = 0
      rw [ati_trim, show ati (h0 :: e.drop 1) 0 = h0 from rfl, ← hh, Int.add_emod, Int.emod_emod, ← Int.add_emod, show 0 - (1 + d) * (C : Int) + (1 + d) * (C : Int) = 0 by omega]
      exact Int.zero_emod p
  · refine ⟨t, _, cells, s, l, _, 8, rfl, rfl, ok, by omega, by decide, by decide, fun d s l d0 d1 ok => fAdd_int ⟨by decide, fAdd_int ⟨_, len_tI, ?_⟩⟩⟩
    refine ⟨⟨by omega, by omega, by simp; omega⟩, ?_⟩
    rw [rep_intZ]
    refine fAdd_tup (by rw [List.length_map, List.length_map, List.length_replicate]; omega) ?_
    have eA : dI e ++ dI (List.replicate (1 + d + 1 - (e.length : Int)).toNat 0) = dI (e ++ List.replicate (1 + d + 1 - (e.length : Int)).toNat 0) := by simp [dI]
    rw [eA]
    generalize hw : e ++ List.replicate (1 + d + 1 - (e.length : Int)).toNat 0 = w
    have lw : (d + 1 : Int) < w.length ∧ w.length ≤ cap + 12 := by rw [← hw]; simp; omega
    have iw : In p w := fun x hx => by
      rw [← hw] at hx
      rcases List.mem_append.mp hx with h | h
      · exact ie x h
      · rw [List.eq_of_mem_replicate h]; exact ⟨by decide, hp0⟩
    have w0 : ati w 0 = ati e 0 := by
      rw [← hw, ati_app]
      split
      · rfl
      · rw [ati_zeros, ati_ge (by omega)]
    obtain ⟨A, rfl⟩ : ∃ A : Nat, d = (A : Int) := ⟨d.toNat, by omega⟩
    refine fSl_tup ?_
    rw [cutG_to (by omega) (by simp; omega), dI_take]
    refine ⟨.int (ati w (1 + (A : Int)).toNat), by rw [ix_tup, atI_dI (by omega) (by omega)], fAdd_int ?_⟩
    refine ⟨t, _, cells, s, l, _, p - 1, rfl, rfl, ok, by omega, hb1, by omega, fun d s l d0 d1 ok => fAdd_int ⟨hp0, by decide, ?_⟩⟩
    refine fAdd_tup (by simp; omega) (fAdd_int (fSl_tup ?_))
    rw [cutG_from (by omega) (by simp; omega), dI_drop]
    refine fAdd_tup (by simp; omega) ?_
    have eB : dI (List.take (1 + (A : Int)).toNat w) ++ [D.int ((ati w (1 + (A : Int)).toNat + 1 + d) % p)] ++ dI (List.drop (1 + (A : Int) + 1).toNat w) = dI (w.take (1 + (A : Int)).toNat ++ [(ati w (1 + (A : Int)).toNat + 1 + d) % p] ++ w.drop (1 + (A : Int) + 1).toNat) := by simp [dI]
    rw [eB]
    generalize hv : w.take (1 + (A : Int)).toNat ++ [(ati w (1 + (A : Int)).toNat + 1 + d) % p] ++ w.drop (1 + (A : Int) + 1).toNat = v
    have lv : v.length ≤ cap + 12 := by rw [← hv]; simp; omega
    have lt := trim_len v
    refine ⟨tI v, v, rfl, .inl rfl, by omega, ?_⟩
    refine fin (some (.int (1 + (A : Int)))) (some (tI w)) sx rx _ s l ⟨s0, s1, r0, r1, In.trim fun x hx => ?_, trim_trim _, ?_⟩ (by omega) (ok.mono (by omega))
    · rw [← hv] at hx
      simp only [List.mem_append, List.mem_singleton] at hx
      rcases hx with (h | h) | h
      · exact iw x (List.mem_of_mem_take h)
      · subst h; exact ⟨Int.emod_nonneg _ (by omega), Int.emod_lt_of_pos _ hp0⟩
      · exact iw x (List.mem_of_mem_drop h)
    · show (ati (trim v) 0 + sx * (C : Int)) % p = 0
      rw [ati_trim]
      have : ati v 0 = ati e 0 := by
        rw [← w0, ← hv, List.append_assoc, ati_app, if_pos (by simp; omega), ati_take, if_pos (by omega)]
      rw [this]
      exact hd
def sp__law_due : DSp := fun xs M Q _ => ∃ p l, xs = [.int p, .lst (l.map pgD)] ∧ Pr p ∧ Bk p l ∧ (∀ x ∈ l, x.2.2.length ≤ 5000) ∧ Q (stD p l) M
def b__law_due : DTS := (dSeq (dAsg (dOp fIx (dVar 1) (dC (.int 1))) (dgTup 3 (dgCons (dgName 2) (dgCons (dgName 3) (dgCons (dgName 4) dgNil))))) (dSeq (dFor (dIRng1 (dCons (dVar 0) dNil)) (dgName 5) (dIf (dB (dOp fNe (dOp fIx (dVar 1) (dVar 5)) (dTup (dCons (dVar 2) (dCons (dVar 3) (dCons (dCall sp__law_cut (dCons (dComp (dISeq (dVar 4)) (tgN 6) dYes (dOp fMod (dOp fMul (dVar 6) (dVar 5)) (dVar 0)) [6]) dNil)) dNil)))))) (dRet (dC .non)) dNext)) (dRet (dTup (dCons (dVar 2) (dCons (dVar 3) (dCons (dVar 4) dNil)))))))
theorem hd__law_due : ∀ (xs : List D) (M : HM) (Q : DK) (E : XDK), sp__law_due xs M Q E → xs.length = (["_law_p", "_law_pages_here"] : List Str).length ∧ b__law_due (ends Q E) (startD (["_law_p", "_law_pages_here", "_law_s", "_law_r", "_law_addend", "_law_c", "_law_bead"] : List Str).length xs) M := by
  rintro xs M Q E ⟨p, l, rfl, hp, hb, hc, q⟩
  refine ⟨rfl, ?_⟩
  have hp0 := hp.pos
  have hp5 := hp.le
  have ll := hb.len
  obtain ⟨hx, ok, hm⟩ := hb.at (c := 1) (by decide) (by rcases hp with h | h | h <;> omega)
  have lx := hc _ hm
  simp only [startD, List.map_cons, List.map_nil, List.length_cons, List.length_nil, List.replicate, List.cons_append, List.nil_append, Nat.zero_add, Nat.reduceAdd, Nat.reduceSub]
  simp only [b__law_due, dNext, dSeq, dDrop, dRet, dRetN, dIf, dCall, dCB, dCBK, dCons, dNil, dVar, dC, dOp, dB, dTru, dAndT, dOrT, dNotT, dAndV, dOrV, dNotV, dIfE, dChain, dTup, dLst, dSl, dPart, dNoPart, dgName, dgTup, dgCons, dgNil, dgSub, dAsg, dPar, dAug, dNeg, ends, fLt, fLe, fGt, fGe, fSub, fMod, fDiv, fPow, iAddI, iSubI, ii, fInt, fMax2, fMin2, fLen, fTuple, fList, List.length_cons, List.length_nil, startD, List.replicate, List.cons_append, List.nil_append, List.append_nil, Nat.zero_add, Nat.reduceAdd, Nat.reduceSub, List.getElem?_cons_succ, List.getElem?_cons_zero, List.set_cons_zero, List.set_cons_succ, wipeD, dFld, dFldSet, dMeth, dMake, dIsO, dFmt, dJs, dStep, dRaise0, iDivI, iModI, iMulI, dRaiseX, dMeth2, dIsi2, dFor, dIRng1]
  refine ⟨pgD (pgAt l 1), by rw [ix_lst]; exact atI_pg (by decide) hx, _, rfl, rfl, rfl, ⟨by omega, by omega⟩, ?_⟩
  have lst : (stP p (pgAt l 1).1 (pgAt l 1).2.1 (pgAt l 1).2.2).length = l.length := by simp [stP]; omega
  have at_ : ∀ i : Nat, i < l.length → (stP p (pgAt l 1).1 (pgAt l 1).2.1 (pgAt l 1).2.2)[i]? = some ((pgAt l 1).1, (pgAt l 1).2.1, trim ((pgAt l 1).2.2.map fun x => x * (i : Int) % p)) := fun i hi => by
    unfold stP
    rw [List.getElem?_map, List.getElem?_range (by omega)]; rfl
  refine forL_inv (fun i σ M' => M' = M ∧ (∀ j, j < i → l[j]? = (stP p (pgAt l 1).1 (pgAt l 1).2.1 (pgAt l 1).2.2)[j]?) ∧ ∃ o5, σ = [some (.int p), some (.lst (l.map pgD)), some (.int (pgAt l 1).1), some (.int (pgAt l 1).2.1), some (tI (pgAt l 1).2.2), o5, none]) _ 0 ?_ ?_ ⟨rfl, fun j z => absurd z (Nat.not_lt_zero j), _, rfl⟩
  · rintro i x σ M' hx' ⟨rfl, hj, o5, rfl⟩ D' er ex eb hnx hct
    obtain ⟨hi, rfl⟩ := rng_at hx'
    have hi' : i < l.length := by omega
    rw [Nat.zero_add] at hnx hj
    simp only [dNext, dSeq, dDrop, dRet, dRetN, dIf, dCall, dCB, dCBK, dCons, dNil, dVar, dC, dOp, dB, dTru, dAndT, dOrT, dNotT, dAndV, dOrV, dNotV, dIfE, dChain, dTup, dLst, dSl, dPart, dNoPart, dgName, dgTup, dgCons, dgNil, dgSub, dAsg, dPar, dAug, dNeg, ends, fLt, fLe, fGt, fGe, fSub, fMod, fDiv, fPow, iAddI, iSubI, ii, fInt, fMax2, fMin2, fLen, fTuple, fList, List.length_cons, List.length_nil, startD, List.replicate, List.cons_append, List.nil_append, List.append_nil, Nat.zero_add, Nat.reduceAdd, Nat.reduceSub, List.getElem?_cons_succ, List.getElem?_cons_zero, List.set_cons_zero, List.set_cons_succ, wipeD, dFld, dFldSet, dMeth, dMake, dIsO, dFmt, dJs, dStep, dRaise0, iDivI, iModI, iMulI, dRaiseX, dMeth2, dIsi2]
    rw [Int.zero_add]
    obtain ⟨hxi, oki, hmi⟩ := hb.at (c := (i : Int)) (by omega) (by omega)
    refine ⟨pgD (pgAt l (i : Int)), by rw [ix_lst]; exact atI_pg (by omega) hxi, ?_⟩
    refine comp_ints (ns := (pgAt l 1).2.2) (g := fun x => .int (x * (i : Int) % p)) (x := tI (pgAt l 1).2.2) rfl (fun Q' q' => q') (by omega) (fun x hx Q' q' => ?_) ?_
    · have := ok.ie x hx
      simp only [dNext, dSeq, dDrop, dRet, dRetN, dIf, dCall, dCB, dCBK, dCons, dNil, dVar, dC, dOp, dB, dTru, dAndT, dOrT, dNotT, dAndV, dOrV, dNotV, dIfE, dChain, dTup, dLst, dSl, dPart, dNoPart, dgName, dgTup, dgCons, dgNil, dgSub, dAsg, dPar, dAug, dNeg, ends, fLt, fLe, fGt, fGe, fSub, fMod, fDiv, fPow, iAddI, iSubI, ii, fInt, fMax2, fMin2, fLen, fTuple, fList, List.length_cons, List.length_nil, startD, List.replicate, List.cons_append, List.nil_append, List.append_nil, Nat.zero_add, Nat.reduceAdd, Nat.reduceSub, List.getElem?_cons_succ, List.getElem?_cons_zero, List.set_cons_zero, List.set_cons_succ, wipeD, dFld, dFldSet, dMeth, dMake, dIsO, dFmt, dJs, dStep, dRaise0, iDivI, iModI, iMulI, dRaiseX, dMeth2, dIsi2]
      exact ⟨⟨big200 (by omega), big200 (by omega)⟩, hp0, q'⟩
    refine ⟨.lst ((pgAt l 1).2.2.map fun x => .int (x * (i : Int) % p)), (pgAt l 1).2.2.map fun x => x * (i : Int) % p, rfl, .inr (by simp [dI]), by simp; omega, by decide, ?_⟩
    refine ne_pg (x := pgAt l (i : Int)) (y := ((pgAt l 1).1, (pgAt l 1).2.1, trim ((pgAt l 1).2.2.map fun x => x * (i : Int) % p))) ?_
    have e1 : l[i]? = some (pgAt l (i : Int)) := by rw [← hxi, Int.toNat_natCast]
    refine ⟨fun hne => ?_, fun heq => hnx _ _ ⟨rfl, fun j hlt => ?_, _, rfl⟩⟩
    · rw [er]
      refine .here ?_
      have hne : pgAt l (i : Int) ≠ ((pgAt l 1).1, (pgAt l 1).2.1, trim ((pgAt l 1).2.2.map fun x => x * (i : Int) % p)) := by simpa using hne
      have : stD p l = .non := by
        unfold stD
        rw [if_neg fun z => ?_]
        have a1 := at_ i hi'
        rw [← z, e1] at a1
        exact hne (Option.some.inj a1)
      rw [this] at q
      exact q
    · by_cases e : j = i
      · subst e
        have heq : pgAt l (j : Int) = ((pgAt l 1).1, (pgAt l 1).2.1, trim ((pgAt l 1).2.2.map fun x => x * (j : Int) % p)) := by simpa using heq
        rw [at_ j hi', e1, heq]
      · exact hj j (by omega)
  · rintro σ M' ⟨rfl, hj, o5, rfl⟩
    simp only [dNext, dSeq, dDrop, dRet, dRetN, dIf, dCall, dCB, dCBK, dCons, dNil, dVar, dC, dOp, dB, dTru, dAndT, dOrT, dNotT, dAndV, dOrV, dNotV, dIfE, dChain, dTup, dLst, dSl, dPart, dNoPart, dgName, dgTup, dgCons, dgNil, dgSub, dAsg, dPar, dAug, dNeg, ends, fLt, fLe, fGt, fGe, fSub, fMod, fDiv, fPow, iAddI, iSubI, ii, fInt, fMax2, fMin2, fLen, fTuple, fList, List.length_cons, List.length_nil, startD, List.replicate, List.cons_append, List.nil_append, List.append_nil, Nat.zero_add, Nat.reduceAdd, Nat.reduceSub, List.getElem?_cons_succ, List.getElem?_cons_zero, List.set_cons_zero, List.set_cons_succ, wipeD, dFld, dFldSet, dMeth, dMake, dIsO, dFmt, dJs, dStep, dRaise0, iDivI, iModI, iMulI, dRaiseX, dMeth2, dIsi2]
    rw [rgD_length] at hj
    refine ⟨by decide, .here ?_⟩
    have : stD p l = pgD (pgAt l 1) := by
      unfold stD
      rw [if_pos]
      apply List.ext_getElem?
      intro i
      by_cases h : i < l.length
      · exact hj i (by omega)
      · rw [List.getElem?_eq_none (by omega), List.getElem?_eq_none (by omega)]
    rw [this] at q
    exact q
theorem rw_pg {p c : Int} {x : Pg} (hp : Pr p) (ok : PgOk p c x) {w : Nat} (hw : x.2.2.length ≤ w) : Rw [pgD x] 2 (4 * w + 10) := by
  have h5 := hp.le
  have a : Rw (dI [x.1, x.2.1]) 0 (4 * 2) := Rw.ints fun y hy => by
    have := ok.s0; have := ok.s1; have := ok.r0; have := ok.r1
    simp only [List.mem_cons, List.not_mem_nil, or_false] at hy
    rcases hy with h | h <;> subst h <;> omega
  have b : Rw [tI x.2.2] 1 (4 * w + 1) := ((Rw.ints (In.lt8 hp ok.ie)).tup).mono (Nat.le_refl _) (by omega)
  exact ((a.mono (Nat.zero_le 1) (Nat.le_refl _)).app b).tup.mono (Nat.le_refl _) (by omega)
theorem rp_stD {p : Int} {l : List Pg} {M : HM} (hp : Pr p) (hb : Bk p l) (hc : ∀ x ∈ l, x.2.2.length ≤ 2000) : rpOk (rd M (stD p l)) := by
  obtain ⟨hx, ok, hm⟩ := hb.at (c := 1) (by decide) (by rcases hp with h | h | h <;> omega)
  unfold stD
  split
  · exact (rw_pg hp ok (hc _ hm)).ok (by decide) (by omega)
  · exact ⟨rfl, rfl, by show ("None" : Str).length ≤ 1000000; decide⟩
abbrev sp_law : DSp := lawSp
def b_law : DTS := (dSeq (dAsg (dCall sp__law_begun (dCons (dVar 0) dNil)) (dgName 1)) (dSeq (dFor (dIRng1 (dCons (dOp fAdd (dC (.int 4)) (dCB fMin2 (dCons (dC (.int 8)) (dCons (dCB fLen (dCons (dVar 0) dNil)) dNil)))) dNil)) (dgName 2) (dSeq (dAsg (dCall sp__law_prime (dCons (dVar 1) dNil)) (dgName 3)) (dSeq (dAsg (dCall sp__law_straight_pages (dCons (dVar 1) (dCons (dVar 3) (dCons (dC (.int 7)) dNil)))) (dgName 4)) (dSeq (dFor (dISeq (dTup (dCons (dVar 4) (dCons (dCall sp__law_bent (dCons (dVar 1) (dCons (dVar 3) (dCons (dVar 4) dNil)))) (dCons (dCall sp__law_pages (dCons (dVar 1) (dCons (dVar 3) (dCons (dOp fAdd (dC (.int 1)) (dCall sp__law_draw (dCons (dVar 1) (dCons (dC (.int 3)) dNil)))) dNil)))) dNil))))) (dgName 5) (dIf (dB (dOp fNe (dCB fRepr (dCons (dCall sp_straight (dCons (dMake "Book" sp_Book___init__ [] (dCons (dVar 3) (dCons (dVar 5) dNil))) dNil)) dNil)) (dCB fRepr (dCons (dCall sp__law_due (dCons (dVar 3) (dCons (dVar 5) dNil))) dNil)))) (dRet (dC (.bl false))) dNext)) (dIf (dB (dOp fNe (dCB fRepr (dCons (dCall sp_straight (dCons (dCall sp_plain (dCons (dVar 3) dNil)) dNil)) dNil)) (dCB fRepr (dCons (dTup (dCons (dC (.int 1)) (dCons (dC (.int 0)) (dCons (dTup (dCons (dOp fSub (dVar 3) (dC (.int 1))) dNil)) dNil)))) dNil)))) (dRet (dC (.bl false))) dNext))))) (dRet (dC (.bl true)))))
theorem hd_law : ∀ (xs : List D) (M : HM) (Q : DK) (E : XDK), sp_law xs M Q E → xs.length = (["_law_script"] : List Str).length ∧ b_law (ends Q E) (startD (["_law_script", "_law_tape", "_law_turn", "_law_p", "_law_good", "_law_pages_here"] : List Str).length xs) M := by
  rintro xs M Q E ⟨ns, rfl, hl, rfl, q⟩
  refine ⟨rfl, ?_⟩
  simp only [startD, List.map_cons, List.map_nil, List.length_cons, List.length_nil, List.replicate, List.cons_append, List.nil_append, Nat.zero_add, Nat.reduceAdd, Nat.reduceSub]
  simp only [b_law, dNext, dSeq, dDrop, dRet, dRetN, dIf, dCall, dCB, dCBK, dCons, dNil, dVar, dC, dOp, dB, dTru, dAndT, dOrT, dNotT, dAndV, dOrV, dNotV, dIfE, dChain, dTup, dLst, dSl, dPart, dNoPart, dgName, dgTup, dgCons, dgNil, dgSub, dAsg, dPar, dAug, dNeg, ends, fLt, fLe, fGt, fGe, fSub, fMod, fDiv, fPow, iAddI, iSubI, ii, fInt, fMax2, fMin2, fLen, fTuple, fList, List.length_cons, List.length_nil, startD, List.replicate, List.cons_append, List.nil_append, List.append_nil, Nat.zero_add, Nat.reduceAdd, Nat.reduceSub, List.getElem?_cons_succ, List.getElem?_cons_zero, List.set_cons_zero, List.set_cons_succ, wipeD, dFld, dFldSet, dMeth, dMake, dIsO, dFmt, dJs, dStep, dRaise0, iDivI, iModI, iMulI, dRaiseX, dMeth2, dIsi2, dFor, dIRng1]
  refine ⟨ns, rfl, hl, fun t cells _ ok0 => ⟨_, rfl, fAdd_int ⟨⟨by simp; omega, by simp; omega⟩, ?_⟩⟩⟩
  refine forL_inv (fun i σ M' => ∃ o2 o3 o4 o5 s l M0, σ = [some (.lsf (dI ns)), some (.ref t), o2, o3, o4, o5] ∧ M' = mup M0 t (tp cells s l) ∧ TpOk cells s l (3000 * i)) _ 0 ?_ ?_ ⟨_, _, _, _, _, _, _, rfl, rfl, ok0⟩
  · rintro i x σ M' hx ⟨o2, o3, o4, o5, s, l, M0, rfl, rfl, ok⟩ D' er ex eb hnx hct
    obtain ⟨hi, rfl⟩ := rng_at hx
    have hi12 : i < 12 := by simp at hi; omega
    rw [Nat.zero_add] at hnx ok
    simp only [dNext, dSeq, dDrop, dRet, dRetN, dIf, dCall, dCB, dCBK, dCons, dNil, dVar, dC, dOp, dB, dTru, dAndT, dOrT, dNotT, dAndV, dOrV, dNotV, dIfE, dChain, dTup, dLst, dSl, dPart, dNoPart, dgName, dgTup, dgCons, dgNil, dgSub, dAsg, dPar, dAug, dNeg, ends, fLt, fLe, fGt, fGe, fSub, fMod, fDiv, fPow, iAddI, iSubI, ii, fInt, fMax2, fMin2, fLen, fTuple, fList, List.length_cons, List.length_nil, startD, List.replicate, List.cons_append, List.nil_append, List.append_nil, Nat.zero_add, Nat.reduceAdd, Nat.reduceSub, List.getElem?_cons_succ, List.getElem?_cons_zero, List.set_cons_zero, List.set_cons_succ, wipeD, dFld, dFldSet, dMeth, dMake, dIsO, dFmt, dJs, dStep, dRaise0, iDivI, iModI, iMulI, dRaiseX, dMeth2, dIsi2]
    refine ⟨t, _, cells, s, l, _, rfl, rfl, ok, by omega, fun p hp s l ok => ?_⟩
    have hP : Pr p := hp
    have hp0 := hP.pos
    have hp5 := hP.le
    refine ⟨t, _, cells, s, l, _, p, 7, rfl, rfl, ok, hP, by decide, by decide, by omega, fun sx rx e s l so le ok => ?_⟩
    have hc7 := stP_len (p := p) (s := sx) (r := rx) (e := e) (cap := 7) (by omega)
    refine ⟨t, _, cells, s, l, _, p, _, 7, rfl, rfl, ok, hP, stP_bk hP so, hc7, by decide, by omega, fun g2 s l hb2 hc2 ok => ?_⟩
    refine ⟨t, _, cells, s, l, _, 3, rfl, rfl, ok, by omega, by decide, by decide, fun d s l d0 d1 ok => fAdd_int ?_⟩
    refine ⟨t, _, cells, s, l, _, p, 1 + d, rfl, rfl, ok, hP, by omega, by omega, by omega, fun g3 s l hb3 hc3 ok => ⟨by simp, _, rfl, ?_⟩⟩
    refine forL_inv (fun j σ M' => ∃ o5, σ = [some (.lsf (dI ns)), some (.ref t), some (.int (0 + (i : Int))), some (.int p), some (.lst ((stP p sx rx e).map pgD)), o5] ∧ M' = mup M0 t (tp cells s l)) _ 0 ?_ ?_ ⟨_, rfl, rfl⟩
    · rintro j x σ M' hx ⟨o5, rfl, rfl⟩ D2 er2 ex2 eb2 hnx2 hct2
      obtain ⟨g, rfl, hb, hc⟩ : ∃ g : List Pg, x = .lst (g.map pgD) ∧ Bk p g ∧ ∀ x ∈ g, x.2.2.length ≤ 50 := by
        match j, hx with
        | 0, hx => cases hx; exact ⟨_, rfl, stP_bk hP so, fun x hx => by have := hc7 x hx; omega⟩
        | 1, hx => cases hx; exact ⟨_, rfl, hb2, fun x hx => by have := hc2 x hx; omega⟩
        | 2, hx => cases hx; exact ⟨_, rfl, hb3, fun x hx => by have := hc3 x hx; omega⟩
        | j + 3, hx => cases hx
      have hc5 : ∀ x ∈ g, x.2.2.length ≤ 5000 := fun x hx => by have := hc x hx; omega
      have rp : ∀ M : HM, rpOk (rd M (stD p g)) := fun M => rp_stD hP hb fun x hx => by have := hc x hx; omega
      simp only [dNext, dSeq, dDrop, dRet, dRetN, dIf, dCall, dCB, dCBK, dCons, dNil, dVar, dC, dOp, dB, dTru, dAndT, dOrT, dNotT, dAndV, dOrV, dNotV, dIfE, dChain, dTup, dLst, dSl, dPart, dNoPart, dgName, dgTup, dgCons, dgNil, dgSub, dAsg, dPar, dAug, dNeg, ends, fLt, fLe, fGt, fGe, fSub, fMod, fDiv, fPow, iAddI, iSubI, ii, fInt, fMax2, fMin2, fLen, fTuple, fList, List.length_cons, List.length_nil, startD, List.replicate, List.cons_append, List.nil_append, List.append_nil, Nat.zero_add, Nat.reduceAdd, Nat.reduceSub, List.getElem?_cons_succ, List.getElem?_cons_zero, List.set_cons_zero, List.set_cons_succ, wipeD, dFld, dFldSet, dMeth, dMake, dIsO, dFmt, dJs, dStep, dRaise0, iDivI, iModI, iMulI, dRaiseX, dMeth2, dIsi2]
      refine mk_book hP hb hc5 (.inr rfl) ?_
      refine ⟨p, g, rfl, hP, hb, hc5, rp _, ?_⟩
      refine ⟨p, g, rfl, hP, hb, hc5, rp _, ne_str ⟨fun z => (no_ne rfl z).elim, fun _ => ?_⟩⟩
      exact hnx2 _ _ ⟨_, rfl, rfl⟩
    · rintro σ M' ⟨o5, rfl, rfl⟩
      simp only [dNext, dSeq, dDrop, dRet, dRetN, dIf, dCall, dCB, dCBK, dCons, dNil, dVar, dC, dOp, dB, dTru, dAndT, dOrT, dNotT, dAndV, dOrV, dNotV, dIfE, dChain, dTup, dLst, dSl, dPart, dNoPart, dgName, dgTup, dgCons, dgNil, dgSub, dAsg, dPar, dAug, dNeg, ends, fLt, fLe, fGt, fGe, fSub, fMod, fDiv, fPow, iAddI, iSubI, ii, fInt, fMax2, fMin2, fLen, fTuple, fList, List.length_cons, List.length_nil, startD, List.replicate, List.cons_append, List.nil_append, List.append_nil, Nat.zero_add, Nat.reduceAdd, Nat.reduceSub, List.getElem?_cons_succ, List.getElem?_cons_zero, List.set_cons_zero, List.set_cons_succ, wipeD, dFld, dFldSet, dMeth, dMake, dIsO, dFmt, dJs, dStep, dRaise0, iDivI, iModI, iMulI, dRaiseX, dMeth2, dIsi2]
      refine ⟨.int p, rfl, rfl, fun z => ?_, fun p' hp' _ => ?_⟩
      · simp [isP', hP] at z
      cases hp'
      have pk := plP_ok hP
      refine ⟨p, plP p, rfl, hP, stP_bk hP pk, (fun x hx => stP_len (cap := 5000) (by simp) x hx), ?_⟩
      have e1 : stD p (plP p) = pgD (1, 0, [p - 1]) := stD_of hP pk
      rw [e1]
      have okx : PgOk p 1 (1, 0, [p - 1]) := ⟨Int.one_pos, by show (1 : Int) < p; rcases hP with h | h | h <;> omega, Int.le_refl 0, hp0, pk.ie, pk.te, by
        show (p - 1 + 1 * 1) % p = 0
        rw [show p - 1 + 1 * 1 = p by omega]; exact Int.emod_self⟩
      have rp : ∀ M : HM, rpOk (rd M (pgD (1, 0, [p - 1]))) := fun M => (rw_pg hP okx (w := 1) (Nat.le_refl _)).ok (by decide) (by decide)
      refine ⟨rp _, by decide, by decide, rp _, ne_str ⟨fun z => (no_ne rfl z).elim, fun _ => ?_⟩⟩
      exact hnx _ _ ⟨_, _, _, _, s, l, M0, rfl, rfl, ok.mono (by omega)⟩
  · rintro σ M' ⟨o2, o3, o4, o5, s, l, M0, rfl, rfl, ok⟩
    simp only [dNext, dSeq, dDrop, dRet, dRetN, dIf, dCall, dCB, dCBK, dCons, dNil, dVar, dC, dOp, dB, dTru, dAndT, dOrT, dNotT, dAndV, dOrV, dNotV, dIfE, dChain, dTup, dLst, dSl, dPart, dNoPart, dgName, dgTup, dgCons, dgNil, dgSub, dAsg, dPar, dAug, dNeg, ends, fLt, fLe, fGt, fGe, fSub, fMod, fDiv, fPow, fAdd, fMul, iAddI, iSubI, ii, fInt, fMax2, fMin2, fLen, fTuple, fList, List.length_cons, List.length_nil, List.map_cons, List.map_nil, startD, List.replicate, List.cons_append, List.nil_append, List.append_nil, Nat.zero_add, Nat.reduceAdd, Nat.reduceSub, List.getElem?_cons_succ, List.getElem?_cons_zero, List.set_cons_zero, List.set_cons_succ, wipeD, dFld, dFldSet, dMeth, dMake, dIsO, dFmt, dJs, dStep, dRaise0, iDivI, iModI, iMulI]
    exact .here (q _)
end DL

set_option Elab.async false
set_option linter.all false
set_option maxRecDepth 100000
set_option maxHeartbeats 400000
namespace DL
open PySem PySem.Spec PyProof.Rows L2
open PySem.W (Frag)
variable [TB]
/-! ### without noughts behind: the second form -/
def b__law_cut : DTS := (dSeq (dAsg (dCB fMax1 (dCons (dOp fAdd (dLst (dCons (dC (.int 0)) dNil)) (dComp (dIRng1 (dCons (dCB fLen (dCons (dVar 0) dNil)) dNil)) (tgN 2) (dB (dOp fNe (dOp fIx (dVar 0) (dVar 2)) (dC (.int 0)))) (dOp fAdd (dVar 2) (dC (.int 1))) [2])) dNil)) (dgName 1)) (dRet (dCB fTuple (dCons (dSl (dVar 0) dNoPart (dPart (dVar 1))) dNil))))
theorem hd__law_cut : ∀ (xs : List D) (M : HM) (Q : DK) (E : XDK), sp__law_cut xs M Q E → xs.length = (["_law_beads_here"] : List Str).length ∧ b__law_cut (ends Q E) (startD (["_law_beads_here", "_law_many", "_law_k"] : List Str).length xs) M := by
  rintro xs M Q E ⟨x, ns, rfl, hx, hl, q⟩
  refine ⟨rfl, ?_⟩
  have hlen : lenOf M x = some (ns.length : Int) := by rcases hx with h | h <;> subst h <;> simp [lenOf_tup, lenOf_lst]
  simp only [b__law_cut, dNext, dSeq, dDrop, dRet, dRetN, dIf, dCall, dCB, dCBK, dCons, dNil, dVar, dC, dOp, dB, dTru, dAndT, dOrT, dNotT, dAndV, dOrV, dNotV, dIfE, dChain, dTup, dLst, dSl, dPart, dNoPart, dgName, dgTup, dgCons, dgNil, dgSub, dAsg, dPar, dAug, dNeg, ends, fLt, fLe, fGt, fGe, fSub, fMod, fDiv, fPow, iAddI, iSubI, ii, fInt, fMax2, fMin2, fLen, fTuple, fList, List.length_cons, List.length_nil, startD, List.replicate, List.cons_append, List.nil_append, List.append_nil, Nat.zero_add, Nat.reduceAdd, Nat.reduceSub, List.getElem?_cons_succ, List.getElem?_cons_zero, List.set_cons_zero, List.set_cons_succ, wipeD, dFld, dFldSet, dMeth, dMake, dIsO, dFmt, dJs, dStep, dRaise0, iDivI, iModI, iMulI, dRaiseX, dMeth2, dIsi2]
  refine ⟨by decide, ?_⟩
  refine comp_rng_if (n := (ns.length : Int)) (g := fun i => .int ((i : Int) + 1)) (p := fun i => !decide (ati ns i = 0)) (fun Q' q' => ⟨_, hlen, q'⟩) (by omega) (by omega) (fun i hi => ⟨fun Q' q' => ?_, fun _ Q' q' => ?_⟩) ?_
  · simp only [dNext, dSeq, dDrop, dRet, dRetN, dIf, dCall, dCB, dCBK, dCons, dNil, dVar, dC, dOp, dB, dTru, dAndT, dOrT, dNotT, dAndV, dOrV, dNotV, dIfE, dChain, dTup, dLst, dSl, dPart, dNoPart, dgName, dgTup, dgCons, dgNil, dgSub, dAsg, dPar, dAug, dNeg, ends, fLt, fLe, fGt, fGe, fSub, fMod, fDiv, fPow, fAdd, fMul, iAddI, iSubI, ii, fInt, fMax2, fMin2, fLen, fTuple, fList, List.length_cons, List.length_nil, List.map_cons, List.map_nil, startD, List.replicate, List.cons_append, List.nil_append, List.append_nil, Nat.zero_add, Nat.reduceAdd, Nat.reduceSub, List.getElem?_cons_succ, List.getElem?_cons_zero, List.set_cons_zero, List.set_cons_succ, wipeD]
    refine ⟨.int (ati ns i), ?_, ?_⟩
    · rcases hx with h | h <;> subst h
      · rw [ix_tup, atI_dI (by omega) hi]; rfl
      · rw [ix_lst, atI_dI (by omega) hi]; rfl
    · exact ne_int q'
  · simp only [dNext, dSeq, dDrop, dRet, dRetN, dIf, dCall, dCB, dCBK, dCons, dNil, dVar, dC, dOp, dB, dTru, dAndT, dOrT, dNotT, dAndV, dOrV, dNotV, dIfE, dChain, dTup, dLst, dSl, dPart, dNoPart, dgName, dgTup, dgCons, dgNil, dgSub, dAsg, dPar, dAug, dNeg, ends, fLt, fLe, fGt, fGe, fSub, fMod, fDiv, fPow, fAdd, fMul, iAddI, iSubI, ii, fInt, fMax2, fMin2, fLen, fTuple, fList, List.length_cons, List.length_nil, List.map_cons, List.map_nil, startD, List.replicate, List.cons_append, List.nil_append, List.append_nil, Nat.zero_add, Nat.reduceAdd, Nat.reduceSub, List.getElem?_cons_succ, List.getElem?_cons_zero, List.set_cons_zero, List.set_cons_succ, wipeD]
    exact q'
  have fin : ∀ m : Int, 0 ≤ m → m ≤ ns.length → ns.take m.toNat = trim ns → fSl x none (some m) M fun x M1 => ∃ ds, seqOf M1 x = some ds ∧ RetK Q (.tup ds) M1 := by
    intro m h0 h1 e
    rw [← e] at q
    rcases hx with h | h <;> subst h
    · refine ⟨_, rfl, .here ?_⟩
      rw [cutG_to h0 (by simpa using h1), dI_take]; exact q
    · refine ⟨_, rfl, .here ?_⟩
      rw [cutG_to h0 (by simpa using h1), dI_take]; exact q
  have hmem : ∀ y : Int, y ∈ ((List.range (ns.length : Int).toNat).filter fun i => !decide (ati ns i = 0)).map (fun i : Nat => (i : Int) + 1) ↔ ∃ i : Nat, i < ns.length ∧ ati ns i ≠ 0 ∧ (i : Int) + 1 = y := by
    intro y
    simp only [List.mem_map, List.mem_filter, List.mem_range, Int.toNat_natCast]
    constructor
    · rintro ⟨i, ⟨h1, h2⟩, h3⟩
      exact ⟨i, h1, by simpa using h2, h3⟩
    · rintro ⟨i, h1, h2, h3⟩
      exact ⟨i, ⟨h1, by simpa using h2⟩, h3⟩
  have hl2 := List.length_filter_le (fun i => !decide (ati ns i = 0)) (List.range (ns.length : Int).toNat)
  rw [List.length_range] at hl2
  refine fAdd_lst ?_ ?_
  · rw [List.length_map, List.length_singleton]; omega
  refine ⟨0 :: ((List.range (ns.length : Int).toNat).filter fun i => !decide (ati ns i = 0)).map (fun i : Nat => (i : Int) + 1), by simp [lstOf], by simp, fun m hm hx => ?_⟩
  have hx' : ∀ y ∈ ((List.range (ns.length : Int).toNat).filter fun i => !decide (ati ns i = 0)).map (fun i : Nat => (i : Int) + 1), y ≤ m := fun y hy => hx y (List.mem_cons_of_mem _ hy)
  rcases List.mem_cons.mp hm with rfl | hm
  · refine fin 0 (by decide) (by omega) (take_trim (by simp) (fun k _ => ?_) (.inl rfl))
    by_cases hk : k < ns.length
    · apply Classical.byContradiction
      intro z
      have := hx' _ ((hmem ((k : Int) + 1)).mpr ⟨k, hk, z, rfl⟩)
      omega
    · exact ati_ge (Nat.le_of_not_lt hk)
  · obtain ⟨i, h1, h2, h3⟩ := (hmem m).mp hm
    subst h3
    refine fin _ (by omega) (by omega) (take_trim (by omega) (fun k hk => ?_) (.inr ?_))
    · by_cases hk2 : k < ns.length
      · apply Classical.byContradiction
        intro z
        have := hx' _ ((hmem ((k : Int) + 1)).mpr ⟨k, hk2, z, rfl⟩)
        omega
      · exact ati_ge (Nat.le_of_not_lt hk2)
    · have e : ((i : Int) + 1).toNat - 1 = i := by omega
      rw [e]; exact h2
end DL

set_option Elab.async false
set_option linter.all false
set_option maxRecDepth 100000
set_option maxHeartbeats 400000
namespace DL
open PySem PySem.Spec PyProof.Rows L2
open PySem.W (Frag)
def topS (i : Nat) : Stmt := PySem.Challenge.pw_tickrow_k56_straight_or_not.main.body.getD i (.Pass ⟨0, 0, 0, 0⟩)
structure Txt (mg : Str → Option Value) : Prop where
  m_ValueError : mg "ValueError" = none
  m_all : mg "all" = none
  m_bool : mg "bool" = none
  m_enumerate : mg "enumerate" = none
  m_int : mg "int" = none
  m_isinstance : mg "isinstance" = none
  m_len : mg "len" = none
  m_list : mg "list" = none
  m_max : mg "max" = none
  m_min : mg "min" = none
  m_range : mg "range" = none
  m_repr : mg "repr" = none
  m_tuple : mg "tuple" = none
abbrev s_trimmed : Stmt := topS 9
theorem sc_trimmed : FnScope ["beads", "many"] ["beads"] (defScope s_trimmed) := ⟨rfl, rfl, rfl, by decide +kernel, rfl, by decide +kernel, by decide +kernel⟩
abbrev s_bead_at : Stmt := topS 10
theorem sc_bead_at : FnScope ["beads", "place"] ["beads", "place"] (defScope s_bead_at) := ⟨rfl, rfl, rfl, by decide +kernel, rfl, by decide +kernel, by decide +kernel⟩
abbrev s_is_whole : Stmt := topS 4
theorem sc_is_whole : FnScope ["thing"] ["thing"] (defScope s_is_whole) := ⟨rfl, rfl, rfl, by decide +kernel, rfl, by decide +kernel, by decide +kernel⟩
abbrev s_is_colour : Stmt := topS 6
theorem sc_is_colour : FnScope ["prime", "thing"] ["prime", "thing"] (defScope s_is_colour) := ⟨rfl, rfl, rfl, by decide +kernel, rfl, by decide +kernel, by decide +kernel⟩
abbrev s_is_word : Stmt := topS 7
theorem sc_is_word : FnScope ["prime", "thing", "bead"] ["prime", "thing"] (defScope s_is_word) := ⟨rfl, rfl, rfl, by decide +kernel, rfl, by decide +kernel, by decide +kernel⟩
abbrev s_is_finite : Stmt := topS 8
theorem sc_is_finite : FnScope ["prime", "thing"] ["prime", "thing"] (defScope s_is_finite) := ⟨rfl, rfl, rfl, by decide +kernel, rfl, by decide +kernel, by decide +kernel⟩
abbrev s_is_page : Stmt := topS 17
theorem sc_is_page : FnScope ["prime", "colour", "thing", "own", "further", "addend"] ["prime", "colour", "thing"] (defScope s_is_page) := ⟨rfl, rfl, rfl, by decide +kernel, rfl, by decide +kernel, by decide +kernel⟩
abbrev s_is_prime : Stmt := topS 5
theorem sc_is_prime : FnScope ["thing"] ["thing"] (defScope s_is_prime) := ⟨rfl, rfl, rfl, by decide +kernel, rfl, by decide +kernel, by decide +kernel⟩
abbrev s_Book___init__ : Stmt := inClass (topS 18) 0
theorem sc_Book___init__ : FnScope ["self", "prime", "pages", "colour", "thing"] ["self", "prime", "pages"] (defScope s_Book___init__) := ⟨rfl, rfl, rfl, by decide +kernel, rfl, by decide +kernel, by decide +kernel⟩
abbrev s_plain : Stmt := topS 19
theorem sc_plain : FnScope ["prime", "colour"] ["prime"] (defScope s_plain) := ⟨rfl, rfl, rfl, by decide +kernel, rfl, by decide +kernel, by decide +kernel⟩
abbrev s_Book_prime : Stmt := inClass (topS 18) 3
theorem sc_Book_prime : FnScope ["self"] ["self"] (defScope s_Book_prime) := ⟨rfl, rfl, rfl, by decide +kernel, rfl, by decide +kernel, by decide +kernel⟩
abbrev s_scaled : Stmt := topS 11
theorem sc_scaled : FnScope ["prime", "one", "colour", "bead"] ["prime", "one", "colour"] (defScope s_scaled) := ⟨rfl, rfl, rfl, by decide +kernel, rfl, by decide +kernel, by decide +kernel⟩
abbrev s_Book_pages : Stmt := inClass (topS 18) 4
theorem sc_Book_pages : FnScope ["self"] ["self"] (defScope s_Book_pages) := ⟨rfl, rfl, rfl, by decide +kernel, rfl, by decide +kernel, by decide +kernel⟩
abbrev s_straight : Stmt := topS 15
theorem sc_straight : FnScope ["book", "pages", "s", "r", "addend", "due", "colour"] ["book"] (defScope s_straight) := ⟨rfl, rfl, rfl, by decide +kernel, rfl, by decide +kernel, by decide +kernel⟩
abbrev s__law_draw : Stmt := topS 22
theorem sc__law_draw : FnScope ["_law_tape", "_law_many", "_law_spot", "_law_lot", "_law_cell", "_law_found"] ["_law_tape", "_law_many"] (defScope s__law_draw) := ⟨rfl, rfl, rfl, by decide +kernel, rfl, by decide +kernel, by decide +kernel⟩
abbrev s__law_pick : Stmt := topS 23
theorem sc__law_pick : FnScope ["_law_tape", "_law_some"] ["_law_tape", "_law_some"] (defScope s__law_pick) := ⟨rfl, rfl, rfl, by decide +kernel, rfl, by decide +kernel, by decide +kernel⟩
abbrev s__law_beads : Stmt := topS 26
theorem sc__law_beads : FnScope ["_law_tape", "_law_p", "_law_many", "_law_share", "_law_k"] ["_law_tape", "_law_p", "_law_many"] (defScope s__law_beads) := ⟨rfl, rfl, rfl, by decide +kernel, rfl, by decide +kernel, by decide +kernel⟩
abbrev s__law_cut : Stmt := topS 25
theorem sc__law_cut : FnScope ["_law_beads_here", "_law_many", "_law_k"] ["_law_beads_here"] (defScope s__law_cut) := ⟨rfl, rfl, rfl, by decide +kernel, rfl, by decide +kernel, by decide +kernel⟩
abbrev s__law_pages : Stmt := topS 27
theorem sc__law_pages : FnScope ["_law_tape", "_law_p", "_law_size", "_law_found", "_law_kind", "_law_c", "_law_s", "_law_r", "_law_addend"] ["_law_tape", "_law_p", "_law_size"] (defScope s__law_pages) := ⟨rfl, rfl, rfl, by decide +kernel, rfl, by decide +kernel, by decide +kernel⟩
abbrev s__law_bent : Stmt := topS 30
theorem sc__law_bent : FnScope ["_law_tape", "_law_p", "_law_pages_here", "_law_c", "_law_way", "_law_s", "_law_r", "_law_addend", "_law_at", "_law_wide"] ["_law_tape", "_law_p", "_law_pages_here"] (defScope s__law_bent) := ⟨rfl, rfl, rfl, by decide +kernel, rfl, by decide +kernel, by decide +kernel⟩
abbrev s__law_due : Stmt := topS 29
theorem sc__law_due : FnScope ["_law_p", "_law_pages_here", "_law_s", "_law_r", "_law_addend", "_law_c", "_law_bead"] ["_law_p", "_law_pages_here"] (defScope s__law_due) := ⟨rfl, rfl, rfl, by decide +kernel, rfl, by decide +kernel, by decide +kernel⟩
abbrev s__law_straight_pages : Stmt := topS 28
theorem sc__law_straight_pages : FnScope ["_law_tape", "_law_p", "_law_size", "_law_s", "_law_r", "_law_row", "_law_c", "_law_bead"] ["_law_tape", "_law_p", "_law_size"] (defScope s__law_straight_pages) := ⟨rfl, rfl, rfl, by decide +kernel, rfl, by decide +kernel, by decide +kernel⟩
abbrev s__law_prime : Stmt := topS 24
theorem sc__law_prime : FnScope ["_law_tape"] ["_law_tape"] (defScope s__law_prime) := ⟨rfl, rfl, rfl, by decide +kernel, rfl, by decide +kernel, by decide +kernel⟩
abbrev s__law_begun : Stmt := topS 21
theorem sc__law_begun : FnScope ["_law_script"] ["_law_script"] (defScope s__law_begun) := ⟨rfl, rfl, rfl, by decide +kernel, rfl, by decide +kernel, by decide +kernel⟩
abbrev s_law : Stmt := topS 31
theorem sc_law : FnScope ["_law_script", "_law_tape", "_law_turn", "_law_p", "_law_good", "_law_pages_here"] ["_law_script"] (defScope s_law) := ⟨rfl, rfl, rfl, by decide +kernel, rfl, by decide +kernel, by decide +kernel⟩
abbrev sx_NoBook : Stmt := inClass (topS 1) 0
theorem scx_NoBook : FnScope ["self", "colour"] ["self", "colour"] (defScope sx_NoBook) := ⟨rfl, rfl, rfl, by decide +kernel, rfl, by decide +kernel, by decide +kernel⟩
section
variable [TB] {P : Program} {K : Frag} {mg : Str → Option Value} {base : Heap}
theorem ok_trimmed {f : Addr} {fd : FuncData} (T : Txt mg) (R : Raw K mg "trimmed" s_trimmed f fd)  : FnG P TB.w K mg base 1 f fd ["beads"] (liftSp K mg sp_trimmed) :=
  fn_ok (d := b_trimmed) R.F sc_trimmed (fun cdv A outer s H E hr hG => by
    have nd := sc_trimmed.nd
    have hu := units_of hr
    have hu1 := Nat.lt_of_le_of_lt (Nat.add_le_add_left (by decide : 1 ≤ 200) _) hu
    have hu64 := Nat.lt_of_le_of_lt (Nat.add_le_add_left (by decide : 64 ≤ 200) _) hu
    exact (dss_cons (ds_set (i := 1) nd (de_callB c_len rfl T.m_len bb_len (da_cons (de_var 0) da_nil))) (dss_cons (ds_while (DW.dt (dw_and (dt_cmp op_fGt (de_var 1) de_int) (dw_and1 (dt_cmp (op_fEq hu64) (de_ix hu1 (de_var 0) (de_op op_fSub (de_var 1) de_int)) de_int)))) (dss_one (ds_aug (i := 1) nd op_iSubI de_int))) (dss_one (ds_ret (de_callT c_tuple rfl T.m_tuple bb_tuple (da_cons (de_slice (de_var 0) do_none (do_some (de_var 1))) da_nil))))))) hd_trimmed
theorem ok_bead_at {f : Addr} {fd : FuncData} (T : Txt mg) (R : Raw K mg "bead_at" s_bead_at f fd)  : FnG P TB.w K mg base 1 f fd ["beads", "place"] (liftSp K mg sp_bead_at) :=
  fn_ok (d := b_bead_at) R.F sc_bead_at (fun cdv A outer s H E hr hG => by
    have nd := sc_bead_at.nd
    have hu := units_of hr
    have hu1 := Nat.lt_of_le_of_lt (Nat.add_le_add_left (by decide : 1 ≤ 200) _) hu
    exact (dss_one (ds_ret (de_ifE (dt_cmp op_fLt (de_var 1) (de_callB c_len rfl T.m_len bb_len (da_cons (de_var 0) da_nil))) (de_ix hu1 (de_var 0) (de_var 1)) de_int)))) hd_bead_at
theorem ok_is_whole {f : Addr} {fd : FuncData} (T : Txt mg) (R : Raw K mg "is_whole" s_is_whole f fd)  : FnG P TB.w K mg base 1 f fd ["thing"] (liftSp K mg sp_is_whole) :=
  fn_ok (d := b_is_whole) R.F sc_is_whole (fun cdv A outer s H E hr hG => by
    have nd := sc_is_whole.nd
    have hu := units_of hr
    exact (dss_one (ds_ret (de_and (de_callB c_isi rfl T.m_isinstance bb_isinstance (da_cons (de_var 0) (da_cons (de_bltn rfl T.m_int bb_int) da_nil))) (de_one (de_not (de_callB c_isi rfl T.m_isinstance bb_isinstance (da_cons (de_var 0) (da_cons (de_bltn rfl T.m_bool bb_bool) da_nil))))))))) hd_is_whole
theorem ok_is_colour {f : Addr} {fd : FuncData} (T : Txt mg) (R : Raw K mg "is_colour" s_is_colour f fd) (F_is_whole : DFn P TB.w K mg base "is_whole" ["thing"] 1 sp_is_whole) : FnG P TB.w K mg base 2 f fd ["prime", "thing"] (liftSp K mg sp_is_colour) :=
  fn_ok (d := b_is_colour) R.F sc_is_colour (fun cdv A outer s H E hr hG => by
    have nd := sc_is_colour.nd
    have hu := units_of hr
    exact (dss_one (ds_ret (de_and (de_call F_is_whole (hr.mono (by decide)) hG rfl (da_cons (de_var 1) da_nil)) (de_one (de_chain op_fLe op_fLt de_int (de_var 1) (de_var 0))))))) hd_is_colour
theorem ok_is_word {f : Addr} {fd : FuncData} (T : Txt mg) (R : Raw K mg "is_word" s_is_word f fd) (F_is_colour : DFn P TB.w K mg base "is_colour" ["prime", "thing"] 2 sp_is_colour) : FnG P TB.w K mg base 3 f fd ["prime", "thing"] (liftSp K mg sp_is_word) :=
  fn_ok (d := b_is_word) R.F sc_is_word (fun cdv A outer s H E hr hG => by
    have nd := sc_is_word.nd
    have hu := units_of hr
    exact (dss_one (ds_ret (de_and (de_callB c_isi rfl T.m_isinstance bb_isinstance (da_cons (de_var 1) (da_cons (de_bltn rfl T.m_tuple bb_tuple) da_nil))) (de_one (de_callB (c_all rfl) rfl T.m_all bb_all (da_cons (de_comp (own := [("bead", 2)]) rfl nd (di_seq (de_var 1)) (by kernel_rfl) (tgok_n (i := 2) (by decide)) (fun _ _ _ _ _ => pg_name (i := 2) nd rfl (by first | exact Or.inl rfl | exact Or.inr rfl)) (fun _ _ _ _ _ => dts_nil) (fun _ _ _ _ _ => (de_call F_is_colour (hr.mono (by decide)) hG rfl (da_cons (de_var 0) (da_cons (de_var 2) da_nil))))) da_nil))))))) hd_is_word
theorem ok_is_finite {f : Addr} {fd : FuncData} (T : Txt mg) (R : Raw K mg "is_finite" s_is_finite f fd) (F_is_word : DFn P TB.w K mg base "is_word" ["prime", "thing"] 3 sp_is_word) : FnG P TB.w K mg base 4 f fd ["prime", "thing"] (liftSp K mg sp_is_finite) :=
  fn_ok (d := b_is_finite) R.F sc_is_finite (fun cdv A outer s H E hr hG => by
    have nd := sc_is_finite.nd
    have hu := units_of hr
    have hu1 := Nat.lt_of_le_of_lt (Nat.add_le_add_left (by decide : 1 ≤ 200) _) hu
    have hu64 := Nat.lt_of_le_of_lt (Nat.add_le_add_left (by decide : 64 ≤ 200) _) hu
    exact (dss_one (ds_ret (de_and (de_call F_is_word (hr.mono (by decide)) hG rfl (da_cons (de_var 0) (da_cons (de_var 1) da_nil))) (de_one (de_or (de_cmp (op_fEq hu64) (de_var 1) (de_tup da_nil)) (de_one (de_cmp (op_fNe hu64) (de_ix hu1 (de_var 1) (de_neg de_int)) de_int)))))))) hd_is_finite
theorem ok_is_page {f : Addr} {fd : FuncData} (T : Txt mg) (R : Raw K mg "is_page" s_is_page f fd) (F_bead_at : DFn P TB.w K mg base "bead_at" ["beads", "place"] 1 sp_bead_at) (F_is_colour : DFn P TB.w K mg base "is_colour" ["prime", "thing"] 2 sp_is_colour) (F_is_finite : DFn P TB.w K mg base "is_finite" ["prime", "thing"] 4 sp_is_finite) : FnG P TB.w K mg base 5 f fd ["prime", "colour", "thing"] (liftSp K mg sp_is_page) :=
  fn_ok (d := b_is_page) R.F sc_is_page (fun cdv A outer s H E hr hG => by
    have nd := sc_is_page.nd
    have hu := units_of hr
    have hu1 := Nat.lt_of_le_of_lt (Nat.add_le_add_left (by decide : 1 ≤ 200) _) hu
    have hu64 := Nat.lt_of_le_of_lt (Nat.add_le_add_left (by decide : 64 ≤ 200) _) hu
    exact (dss_cons (ds_if (DW.dt (dw_or (dt_not (dt_truth (de_callB c_isi rfl T.m_isinstance bb_isinstance (da_cons (de_var 2) (da_cons (de_bltn rfl T.m_tuple bb_tuple) da_nil))))) (dw_or (dt_cmp (op_fNe hu64) (de_callB c_len rfl T.m_len bb_len (da_cons (de_var 2) da_nil)) de_int) (dw_or1 (dt_not (dt_truth (de_call F_is_finite (hr.mono (by decide)) hG rfl (da_cons (de_var 0) (da_cons (de_ix hu1 (de_var 2) de_int) da_nil))))))))) (dss_one (ds_ret de_bl)) dss_nil) (dss_cons (ds_asg (de_var 2) (dg_tup (n := 3) rfl (dgs_cons (dg_name (i := 3) nd) (dgs_cons (dg_name (i := 4) nd) (dgs_cons (dg_name (i := 5) nd) dgs_nil))))) (dss_cons (ds_if (DW.dt (dw_or (dt_not (dt_truth (de_call F_is_colour (hr.mono (by decide)) hG rfl (da_cons (de_var 0) (da_cons (de_var 3) da_nil))))) (dw_or (dt_cmp (op_fEq hu64) (de_var 3) de_int) (dw_or1 (dt_not (dt_truth (de_call F_is_colour (hr.mono (by decide)) hG rfl (da_cons (de_var 0) (da_cons (de_var 4) da_nil))))))))) (dss_one (ds_ret de_bl)) dss_nil) (dss_one (ds_ret (de_cmp (op_fEq hu64) (de_op op_fMod (de_callT c_int rfl T.m_int bb_int (da_cons (de_op op_fAdd (de_call F_bead_at (hr.mono (by decide)) hG rfl (da_cons (de_var 5) (da_cons de_int da_nil))) (de_op op_fMul (de_var 3) (de_var 1))) da_nil)) (de_var 0)) de_int))))))) hd_is_page
theorem ok_is_prime {f : Addr} {fd : FuncData} (T : Txt mg) (R : Raw K mg "is_prime" s_is_prime f fd) (F_is_whole : DFn P TB.w K mg base "is_whole" ["thing"] 1 sp_is_whole) (K_PRIMES : TupG K mg "PRIMES" [2, 3, 5]) : FnG P TB.w K mg base 2 f fd ["thing"] (liftSp K mg sp_is_prime) :=
  fn_ok (d := b_is_prime) R.F sc_is_prime (fun cdv A outer s H E hr hG => by
    have nd := sc_is_prime.nd
    have hu := units_of hr
    have hu65 := Nat.lt_of_le_of_lt (Nat.add_le_add_left (by decide : 65 ≤ 200) _) hu
    exact (dss_one (ds_ret (de_and (de_call F_is_whole (hr.mono (by decide)) hG rfl (da_cons (de_var 0) da_nil)) (de_one (de_cmp (op_fIn hu65) (de_var 0) (de_tupG (x := "PRIMES") (is := [2, 3, 5]) K_PRIMES rfl))))))) hd_is_prime
theorem ok_Book___init__ {f : Addr} {fd : FuncData} (T : Txt mg) (R : FunL K "__init__" "Book.__init__" s_Book___init__ f fd) (F_is_page : DFn P TB.w K mg base "is_page" ["prime", "colour", "thing"] 5 sp_is_page) (F_is_prime : DFn P TB.w K mg base "is_prime" ["thing"] 2 sp_is_prime) (D_Book_base : FldF K mg "Book" "base") (D_Book_leaves : FldF K mg "Book" "leaves") (XM_NoBook : XMk P TB.w K mg base "NoBook" "colour") : FnG P TB.w K mg base 6 f fd ["self", "prime", "pages"] (liftSp K mg sp_Book___init__) :=
  fn_okL (d := b_Book___init__) R sc_Book___init__ (fun cdv A outer s H E hr hG => by
    have nd := sc_Book___init__.nd
    have hu := units_of hr
    have hu64 := Nat.lt_of_le_of_lt (Nat.add_le_add_left (by decide : 64 ≤ 200) _) hu
    exact (dss_cons (ds_if (DW.dt (dw_or (dt_not (dt_truth (de_call F_is_prime (hr.mono (by decide)) hG rfl (da_cons (de_var 1) da_nil)))) (dw_or (dt_not (dt_truth (de_isi2 rfl T.m_isinstance (de_var 2) rfl T.m_list bb_list rfl T.m_tuple bb_tuple))) (dw_or1 (dt_cmp (op_fNe hu64) (de_callB c_len rfl T.m_len bb_len (da_cons (de_var 2) da_nil)) (de_var 1)))))) (dss_one (ds_raiseX rfl XM_NoBook (hr.mono (by decide)) rfl (da_cons de_non da_nil))) dss_nil) (dss_cons (ds_for rfl (di_enum rfl T.m_enumerate (da_cons (de_var 2) da_nil)) (dg_tup (n := 2) rfl (dgs_cons (dg_name (i := 3) nd) (dgs_cons (dg_name (i := 4) nd) dgs_nil))) (dss_one (ds_if (dt_not (dt_truth (de_call F_is_page (hr.mono (by decide)) hG rfl (da_cons (de_var 1) (da_cons (de_var 3) (da_cons (de_var 4) da_nil)))))) (dss_one (ds_raiseX rfl XM_NoBook (hr.mono (by decide)) rfl (da_cons (de_var 3) da_nil))) dss_nil))) (dss_cons (ds_fld D_Book_base (de_var 0) (de_var 1)) (dss_one (ds_fld D_Book_leaves (de_var 0) (de_callT c_tuple rfl T.m_tuple bb_tuple (da_cons (de_var 2) da_nil)))))))) hd_Book___init__
theorem ok_plain {f : Addr} {fd : FuncData} (T : Txt mg) (R : Raw K mg "plain" s_plain f fd) (F_is_prime : DFn P TB.w K mg base "is_prime" ["thing"] 2 sp_is_prime) (F_trimmed : DFn P TB.w K mg base "trimmed" ["beads"] 1 sp_trimmed) (I_Book_0 : IFn P TB.w K mg base "Book" ["self", "prime", "pages"] 6 [] sp_Book___init__) (XM_NoBook : XMk P TB.w K mg base "NoBook" "colour") : FnG P TB.w K mg base 8 f fd ["prime"] (liftSp K mg sp_plain) :=
  fn_ok (d := b_plain) R.F sc_plain (fun cdv A outer s H E hr hG => by
    have nd := sc_plain.nd
    have hu := units_of hr
    exact (dss_cons (ds_if (dt_not (dt_truth (de_call F_is_prime (hr.mono (by decide)) hG rfl (da_cons (de_var 0) da_nil)))) (dss_one (ds_raiseX rfl XM_NoBook (hr.mono (by decide)) rfl (da_cons de_non da_nil))) dss_nil) (dss_one (ds_ret (de_make I_Book_0 (hr.mono (by decide)) hG rfl (da_cons (de_var 0) (da_cons (de_comp (own := [("colour", 1)]) rfl nd (di_range1 rfl T.m_range (da_cons (de_var 0) da_nil)) (by kernel_rfl) (tgok_n (i := 1) (by decide)) (fun _ _ _ _ _ => pg_name (i := 1) nd rfl (by first | exact Or.inl rfl | exact Or.inr rfl)) (fun _ _ _ _ _ => dts_nil) (fun _ _ _ _ _ => (de_tup (da_cons de_int (da_cons de_int (da_cons (de_call F_trimmed (hr.mono (by decide)) hG rfl (da_cons (de_lst (da_cons (de_op op_fMod (de_op op_fSub (de_var 0) (de_var 1)) (de_var 0)) da_nil)) da_nil)) da_nil)))))) da_nil))))))) hd_plain
theorem ok_Book_prime {f : Addr} {fd : FuncData} (T : Txt mg) (R : FunL K "prime" "Book.prime" s_Book_prime f fd)  (D_Book_base : FldF K mg "Book" "base") : FnG P TB.w K mg base 1 f fd ["self"] (liftSp K mg sp_Book_prime) :=
  fn_okL (d := b_Book_prime) R sc_Book_prime (fun cdv A outer s H E hr hG => by
    have nd := sc_Book_prime.nd
    have hu := units_of hr
    exact (dss_one (ds_ret (de_fld D_Book_base (de_var 0))))) hd_Book_prime
theorem ok_scaled {f : Addr} {fd : FuncData} (T : Txt mg) (R : Raw K mg "scaled" s_scaled f fd) (F_trimmed : DFn P TB.w K mg base "trimmed" ["beads"] 1 sp_trimmed) : FnG P TB.w K mg base 2 f fd ["prime", "one", "colour"] (liftSp K mg sp_scaled) :=
  fn_ok (d := b_scaled) R.F sc_scaled (fun cdv A outer s H E hr hG => by
    have nd := sc_scaled.nd
    have hu := units_of hr
    exact (dss_one (ds_ret (de_call F_trimmed (hr.mono (by decide)) hG rfl (da_cons (de_comp (own := [("bead", 3)]) rfl nd (di_seq (de_var 1)) (by kernel_rfl) (tgok_n (i := 3) (by decide)) (fun _ _ _ _ _ => pg_name (i := 3) nd rfl (by first | exact Or.inl rfl | exact Or.inr rfl)) (fun _ _ _ _ _ => dts_nil) (fun _ _ _ _ _ => (de_op op_fMod (de_callT c_int rfl T.m_int bb_int (da_cons (de_op op_fMul (de_var 3) (de_var 2)) da_nil)) (de_var 0)))) da_nil))))) hd_scaled
theorem ok_Book_pages {f : Addr} {fd : FuncData} (T : Txt mg) (R : FunL K "pages" "Book.pages" s_Book_pages f fd)  (D_Book_leaves : FldF K mg "Book" "leaves") : FnG P TB.w K mg base 1 f fd ["self"] (liftSp K mg sp_Book_pages) :=
  fn_okL (d := b_Book_pages) R sc_Book_pages (fun cdv A outer s H E hr hG => by
    have nd := sc_Book_pages.nd
    have hu := units_of hr
    exact (dss_one (ds_ret (de_callT c_list rfl T.m_list bb_list (da_cons (de_fld D_Book_leaves (de_var 0)) da_nil))))) hd_Book_pages
theorem ok_straight {f : Addr} {fd : FuncData} (T : Txt mg) (R : Raw K mg "straight" s_straight f fd) (F_scaled : DFn P TB.w K mg base "scaled" ["prime", "one", "colour"] 2 sp_scaled) (M_Book_pages : MFn P TB.w K mg base "Book" "pages" ["self"] 1 [] sp_Book_pages) (M_Book_prime : MFn P TB.w K mg base "Book" "prime" ["self"] 1 [] sp_Book_prime) : FnG P TB.w K mg base 3 f fd ["book"] (liftSp K mg sp_straight) :=
  fn_ok (d := b_straight) R.F sc_straight (fun cdv A outer s H E hr hG => by
    have nd := sc_straight.nd
    have hu := units_of hr
    have hu1 := Nat.lt_of_le_of_lt (Nat.add_le_add_left (by decide : 1 ≤ 200) _) hu
    have hu64 := Nat.lt_of_le_of_lt (Nat.add_le_add_left (by decide : 64 ≤ 200) _) hu
    exact (dss_cons (ds_set (i := 1) nd (de_meth0 M_Book_pages (hr.mono (by decide)) hG (de_var 0))) (dss_cons (ds_asg (de_ix hu1 (de_var 1) de_int) (dg_tup (n := 3) rfl (dgs_cons (dg_name (i := 2) nd) (dgs_cons (dg_name (i := 3) nd) (dgs_cons (dg_name (i := 4) nd) dgs_nil))))) (dss_cons (ds_setComp (own := [("colour", 6)]) (i := 5) rfl nd (di_range1 rfl T.m_range (da_cons (de_meth0 M_Book_prime (hr.mono (by decide)) hG (de_var 0)) da_nil)) (by kernel_rfl) (tgok_n (i := 6) (by decide)) (fun _ _ _ _ _ => pg_name (i := 6) nd rfl (by first | exact Or.inl rfl | exact Or.inr rfl)) (fun _ _ _ _ _ => dts_nil) (fun _ _ _ _ _ => (de_tup (da_cons (de_var 2) (da_cons (de_var 3) (da_cons (de_call F_scaled (hr.mono (by decide)) hG rfl (da_cons (de_meth0 M_Book_prime (hr.mono (by decide)) hG (de_var 0)) (da_cons (de_var 4) (da_cons (de_var 6) da_nil)))) da_nil)))))) (dss_one (ds_ret (de_ifE (dt_cmp (op_fEq hu64) (de_var 1) (de_var 5)) (de_tup (da_cons (de_var 2) (da_cons (de_var 3) (da_cons (de_var 4) da_nil)))) de_non))))))) hd_straight
theorem ok__law_draw {f : Addr} {fd : FuncData} (T : Txt mg) (R : Raw K mg "_law_draw" s__law_draw f fd)  : FnG P TB.w K mg base 1 f fd ["_law_tape", "_law_many"] (liftSp K mg sp__law_draw) :=
  fn_ok (d := b__law_draw) R.F sc__law_draw (fun cdv A outer s H E hr hG => by
    have nd := sc__law_draw.nd
    have hu := units_of hr
    have hu1 := Nat.lt_of_le_of_lt (Nat.add_le_add_left (by decide : 1 ≤ 200) _) hu
    exact (dss_cons (ds_if (dt_cmp op_fLt (de_ix hu1 (de_var 0) de_str) (de_var 1)) (dss_cons (ds_par (i := 2) (j := 3) rfl nd (da_cons (de_ix hu1 (de_var 0) de_str) (da_cons (de_callB c_len rfl T.m_len bb_len (da_cons (de_ix hu1 (de_var 0) de_str) da_nil)) da_nil))) (dss_cons (ds_asg (de_tup (da_cons (de_ix hu1 (de_ix hu1 (de_var 0) de_str) (de_op op_fMod (de_var 2) (de_var 3))) (da_cons (de_op op_fAdd (de_var 2) de_int) da_nil))) (dg_tup (n := 2) rfl (dgs_cons (dg_name (i := 4) nd) (dgs_cons (dg_sub hu1 (de_var 0) de_str) dgs_nil)))) (dss_cons (ds_asg (de_op op_fMod (de_op op_fPow (de_op op_fAdd (de_op op_fAdd (de_op op_fMod (de_var 4) de_int) (de_op op_fMul de_int (de_var 2))) de_int) de_int) (de_op op_fAdd (de_op op_fPow de_int de_int) de_int)) (dg_sub hu1 (de_var 0) de_str)) (dss_one (ds_if (DW.dt (dw_and (dt_cmp op_fGe (de_var 4) (de_op op_fPow de_int de_int)) (dw_and1 (dt_cmp op_fLt (de_var 2) (de_var 3))))) (dss_one (ds_asg (de_op op_fSub (de_var 4) (de_op op_fPow de_int de_int)) (dg_sub hu1 (de_var 0) de_str))) dss_nil))))) dss_nil) (dss_cons (ds_asg (de_tup (da_cons (de_op op_fMod (de_ix hu1 (de_var 0) de_str) (de_var 1)) (da_cons (de_op op_fDiv (de_ix hu1 (de_var 0) de_str) (de_var 1)) da_nil))) (dg_tup (n := 2) rfl (dgs_cons (dg_name (i := 5) nd) (dgs_cons (dg_sub hu1 (de_var 0) de_str) dgs_nil)))) (dss_one (ds_ret (de_var 5)))))) hd__law_draw
theorem ok__law_pick {f : Addr} {fd : FuncData} (T : Txt mg) (R : Raw K mg "_law_pick" s__law_pick f fd) (F__law_draw : DFn P TB.w K mg base "_law_draw" ["_law_tape", "_law_many"] 1 sp__law_draw) : FnG P TB.w K mg base 2 f fd ["_law_tape", "_law_some"] (liftSp K mg sp__law_pick) :=
  fn_ok (d := b__law_pick) R.F sc__law_pick (fun cdv A outer s H E hr hG => by
    have nd := sc__law_pick.nd
    have hu := units_of hr
    have hu1 := Nat.lt_of_le_of_lt (Nat.add_le_add_left (by decide : 1 ≤ 200) _) hu
    exact (dss_one (ds_ret (de_ix hu1 (de_var 1) (de_call F__law_draw (hr.mono (by decide)) hG rfl (da_cons (de_var 0) (da_cons (de_callB c_len rfl T.m_len bb_len (da_cons (de_var 1) da_nil)) da_nil))))))) hd__law_pick
theorem ok__law_beads {f : Addr} {fd : FuncData} (T : Txt mg) (R : Raw K mg "_law_beads" s__law_beads f fd) (F__law_draw : DFn P TB.w K mg base "_law_draw" ["_law_tape", "_law_many"] 1 sp__law_draw) (F__law_pick : DFn P TB.w K mg base "_law_pick" ["_law_tape", "_law_some"] 2 sp__law_pick) : FnG P TB.w K mg base 3 f fd ["_law_tape", "_law_p", "_law_many"] (liftSp K mg sp__law_beads) :=
  fn_ok (d := b__law_beads) R.F sc__law_beads (fun cdv A outer s H E hr hG => by
    have nd := sc__law_beads.nd
    have hu := units_of hr
    have hu64 := Nat.lt_of_le_of_lt (Nat.add_le_add_left (by decide : 64 ≤ 200) _) hu
    exact (dss_cons (ds_set (i := 3) nd (de_call F__law_pick (hr.mono (by decide)) hG rfl (da_cons (de_var 0) (da_cons (de_lst (da_cons de_int (da_cons de_int (da_cons de_int da_nil)))) da_nil)))) (dss_one (ds_ret (de_callT c_tuple rfl T.m_tuple bb_tuple (da_cons (de_comp (own := [("_law_k", 4)]) rfl nd (di_range1 rfl T.m_range (da_cons (de_var 2) da_nil)) (by kernel_rfl) (tgok_n (i := 4) (by decide)) (fun _ _ _ _ _ => pg_name (i := 4) nd rfl (by first | exact Or.inl rfl | exact Or.inr rfl)) (fun _ _ _ _ _ => dts_nil) (fun _ _ _ _ _ => (de_ifE (dt_cmp (op_fEq hu64) (de_call F__law_draw (hr.mono (by decide)) hG rfl (da_cons (de_var 0) (da_cons (de_var 3) da_nil))) de_int) (de_call F__law_draw (hr.mono (by decide)) hG rfl (da_cons (de_var 0) (da_cons (de_var 1) da_nil))) de_int))) da_nil)))))) hd__law_beads
theorem ok__law_cut {f : Addr} {fd : FuncData} (T : Txt mg) (R : Raw K mg "_law_cut" s__law_cut f fd)  : FnG P TB.w K mg base 1 f fd ["_law_beads_here"] (liftSp K mg sp__law_cut) :=
  fn_ok (d := b__law_cut) R.F sc__law_cut (fun cdv A outer s H E hr hG => by
    have nd := sc__law_cut.nd
    have hu := units_of hr
    have hu1 := Nat.lt_of_le_of_lt (Nat.add_le_add_left (by decide : 1 ≤ 200) _) hu
    have hu64 := Nat.lt_of_le_of_lt (Nat.add_le_add_left (by decide : 64 ≤ 200) _) hu
    exact (dss_cons (ds_set (i := 1) nd (de_callB (c_max1 rfl) rfl T.m_max bb_max (da_cons (de_op op_fAdd (de_lst (da_cons de_int da_nil)) (de_comp (own := [("_law_k", 2)]) rfl nd (di_range1 rfl T.m_range (da_cons (de_callB c_len rfl T.m_len bb_len (da_cons (de_var 0) da_nil)) da_nil)) (by kernel_rfl) (tgok_n (i := 2) (by decide)) (fun _ _ _ _ _ => pg_name (i := 2) nd rfl (by first | exact Or.inl rfl | exact Or.inr rfl)) (fun _ _ _ _ _ => dts_one (dt_cmp (op_fNe hu64) (de_ix hu1 (de_var 0) (de_var 2)) de_int)) (fun _ _ _ _ _ => (de_op op_fAdd (de_var 2) de_int)))) da_nil))) (dss_one (ds_ret (de_callT c_tuple rfl T.m_tuple bb_tuple (da_cons (de_slice (de_var 0) do_none (do_some (de_var 1))) da_nil)))))) hd__law_cut
theorem ok__law_pages {f : Addr} {fd : FuncData} (T : Txt mg) (R : Raw K mg "_law_pages" s__law_pages f fd) (F__law_beads : DFn P TB.w K mg base "_law_beads" ["_law_tape", "_law_p", "_law_many"] 3 sp__law_beads) (F__law_cut : DFn P TB.w K mg base "_law_cut" ["_law_beads_here"] 1 sp__law_cut) (F__law_draw : DFn P TB.w K mg base "_law_draw" ["_law_tape", "_law_many"] 1 sp__law_draw) : FnG P TB.w K mg base 4 f fd ["_law_tape", "_law_p", "_law_size"] (liftSp K mg sp__law_pages) :=
  fn_ok (d := b__law_pages) R.F sc__law_pages (fun cdv A outer s H E hr hG => by
    have nd := sc__law_pages.nd
    have hu := units_of hr
    have hu64 := Nat.lt_of_le_of_lt (Nat.add_le_add_left (by decide : 64 ≤ 200) _) hu
    exact (dss_cons (ds_par (i := 3) (j := 4) rfl nd (da_cons (de_lstM da_nil) (da_cons (de_call F__law_draw (hr.mono (by decide)) hG rfl (da_cons (de_var 0) (da_cons de_int da_nil))) da_nil))) (dss_cons (ds_for rfl (di_range1 rfl T.m_range (da_cons (de_var 1) da_nil)) (dg_name (i := 5) nd) (dss_cons (ds_par (i := 6) (j := 7) rfl nd (da_cons (de_op op_fAdd de_int (de_call F__law_draw (hr.mono (by decide)) hG rfl (da_cons (de_var 0) (da_cons (de_op op_fSub (de_var 1) de_int) da_nil)))) (da_cons (de_call F__law_draw (hr.mono (by decide)) hG rfl (da_cons (de_var 0) (da_cons (de_var 1) da_nil))) da_nil))) (dss_cons (ds_if (dt_cmp (op_fEq hu64) (de_var 4) de_int) (dss_one (ds_set (i := 7) nd de_int)) dss_nil) (dss_cons (ds_set (i := 8) nd (de_call F__law_cut (hr.mono (by decide)) hG rfl (da_cons (de_op op_fAdd (de_tup (da_cons (de_op op_fMod (de_op op_fSub de_int (de_op op_fMul (de_var 6) (de_var 5))) (de_var 1)) da_nil)) (de_call F__law_beads (hr.mono (by decide)) hG rfl (da_cons (de_var 0) (da_cons (de_var 1) (da_cons (de_call F__law_draw (hr.mono (by decide)) hG rfl (da_cons (de_var 0) (da_cons (de_var 2) da_nil))) da_nil))))) da_nil))) (dss_one (ds_expr (de_bm (by decide) PySem.F.plainAttrs_list PySem.F.slot_list_append PySem.F.type_list_append m_append (de_var 3) (da_cons (de_tup (da_cons (de_var 6) (da_cons (de_var 7) (da_cons (de_var 8) da_nil)))) da_nil)))))))) (dss_one (ds_ret (de_var 3)))))) hd__law_pages
theorem ok__law_bent {f : Addr} {fd : FuncData} (T : Txt mg) (R : Raw K mg "_law_bent" s__law_bent f fd) (F__law_cut : DFn P TB.w K mg base "_law_cut" ["_law_beads_here"] 1 sp__law_cut) (F__law_draw : DFn P TB.w K mg base "_law_draw" ["_law_tape", "_law_many"] 1 sp__law_draw) : FnG P TB.w K mg base 2 f fd ["_law_tape", "_law_p", "_law_pages_here"] (liftSp K mg sp__law_bent) :=
  fn_ok (d := b__law_bent) R.F sc__law_bent (fun cdv A outer s H E hr hG => by
    have nd := sc__law_bent.nd
    have hu := units_of hr
    have hu1 := Nat.lt_of_le_of_lt (Nat.add_le_add_left (by decide : 1 ≤ 200) _) hu
    have hu64 := Nat.lt_of_le_of_lt (Nat.add_le_add_left (by decide : 64 ≤ 200) _) hu
    exact (dss_cons (ds_par (i := 3) (j := 4) rfl nd (da_cons (de_call F__law_draw (hr.mono (by decide)) hG rfl (da_cons (de_var 0) (da_cons (de_var 1) da_nil))) (da_cons (de_call F__law_draw (hr.mono (by decide)) hG rfl (da_cons (de_var 0) (da_cons de_int da_nil))) da_nil))) (dss_cons (ds_asg (de_ix hu1 (de_var 2) (de_var 3)) (dg_tup (n := 3) rfl (dgs_cons (dg_name (i := 5) nd) (dgs_cons (dg_name (i := 6) nd) (dgs_cons (dg_name (i := 7) nd) dgs_nil))))) (dss_cons (ds_if (dt_cmp (op_fEq hu64) (de_var 4) de_int) (dss_one (ds_set (i := 6) nd (de_op op_fMod (de_op op_fAdd (de_op op_fAdd (de_var 6) de_int) (de_call F__law_draw (hr.mono (by decide)) hG rfl (da_cons (de_var 0) (da_cons (de_op op_fSub (de_var 1) de_int) da_nil)))) (de_var 1)))) (dss_one (ds_if (dt_cmp (op_fEq hu64) (de_var 4) de_int) (dss_cons (ds_set (i := 5) nd (de_op op_fAdd de_int (de_call F__law_draw (hr.mono (by decide)) hG rfl (da_cons (de_var 0) (da_cons (de_op op_fSub (de_var 1) de_int) da_nil))))) (dss_one (ds_set (i := 7) nd (de_call F__law_cut (hr.mono (by decide)) hG rfl (da_cons (de_op op_fAdd (de_tup (da_cons (de_op op_fMod (de_op op_fSub de_int (de_op op_fMul (de_var 5) (de_var 3))) (de_var 1)) da_nil)) (de_slice (de_var 7) (do_some de_int) do_none)) da_nil))))) (dss_cons (ds_set (i := 8) nd (de_op op_fAdd de_int (de_call F__law_draw (hr.mono (by decide)) hG rfl (da_cons (de_var 0) (da_cons de_int da_nil))))) (dss_cons (ds_set (i := 9) nd (de_op op_fAdd (de_var 7) (de_op op_fMul (de_tup (da_cons de_int da_nil)) (de_op op_fSub (de_op op_fAdd (de_var 8) de_int) (de_callB c_len rfl T.m_len bb_len (da_cons (de_var 7) da_nil)))))) (dss_one (ds_set (i := 7) nd (de_call F__law_cut (hr.mono (by decide)) hG rfl (da_cons (de_op op_fAdd (de_op op_fAdd (de_slice (de_var 9) do_none (do_some (de_var 8))) (de_tup (da_cons (de_op op_fMod (de_op op_fAdd (de_op op_fAdd (de_ix hu1 (de_var 9) (de_var 8)) de_int) (de_call F__law_draw (hr.mono (by decide)) hG rfl (da_cons (de_var 0) (da_cons (de_op op_fSub (de_var 1) de_int) da_nil)))) (de_var 1)) da_nil))) (de_slice (de_var 9) (do_some (de_op op_fAdd (de_var 8) de_int)) do_none)) da_nil))))))))) (dss_one (ds_ret (de_op op_fAdd (de_op op_fAdd (de_slice (de_var 2) do_none (do_some (de_var 3))) (de_lst (da_cons (de_tup (da_cons (de_var 5) (da_cons (de_var 6) (da_cons (de_var 7) da_nil)))) da_nil))) (de_slice (de_var 2) (do_some (de_op op_fAdd (de_var 3) de_int)) do_none)))))))) hd__law_bent
theorem ok__law_due {f : Addr} {fd : FuncData} (T : Txt mg) (R : Raw K mg "_law_due" s__law_due f fd) (F__law_cut : DFn P TB.w K mg base "_law_cut" ["_law_beads_here"] 1 sp__law_cut) : FnG P TB.w K mg base 2 f fd ["_law_p", "_law_pages_here"] (liftSp K mg sp__law_due) :=
  fn_ok (d := b__law_due) R.F sc__law_due (fun cdv A outer s H E hr hG => by
    have nd := sc__law_due.nd
    have hu := units_of hr
    have hu1 := Nat.lt_of_le_of_lt (Nat.add_le_add_left (by decide : 1 ≤ 200) _) hu
    have hu64 := Nat.lt_of_le_of_lt (Nat.add_le_add_left (by decide : 64 ≤ 200) _) hu
    exact (dss_cons (ds_asg (de_ix hu1 (de_var 1) de_int) (dg_tup (n := 3) rfl (dgs_cons (dg_name (i := 2) nd) (dgs_cons (dg_name (i := 3) nd) (dgs_cons (dg_name (i := 4) nd) dgs_nil))))) (dss_cons (ds_for rfl (di_range1 rfl T.m_range (da_cons (de_var 0) da_nil)) (dg_name (i := 5) nd) (dss_one (ds_if (dt_cmp (op_fNe hu64) (de_ix hu1 (de_var 1) (de_var 5)) (de_tup (da_cons (de_var 2) (da_cons (de_var 3) (da_cons (de_call F__law_cut (hr.mono (by decide)) hG rfl (da_cons (de_comp (own := [("_law_bead", 6)]) rfl nd (di_seq (de_var 4)) (by kernel_rfl) (tgok_n (i := 6) (by decide)) (fun _ _ _ _ _ => pg_name (i := 6) nd rfl (by first | exact Or.inl rfl | exact Or.inr rfl)) (fun _ _ _ _ _ => dts_nil) (fun _ _ _ _ _ => (de_op op_fMod (de_op op_fMul (de_var 6) (de_var 5)) (de_var 0)))) da_nil)) da_nil))))) (dss_one (ds_ret de_non)) dss_nil))) (dss_one (ds_ret (de_tup (da_cons (de_var 2) (da_cons (de_var 3) (da_cons (de_var 4) da_nil))))))))) hd__law_due
theorem ok__law_straight_pages {f : Addr} {fd : FuncData} (T : Txt mg) (R : Raw K mg "_law_straight_pages" s__law_straight_pages f fd) (F__law_beads : DFn P TB.w K mg base "_law_beads" ["_law_tape", "_law_p", "_law_many"] 3 sp__law_beads) (F__law_cut : DFn P TB.w K mg base "_law_cut" ["_law_beads_here"] 1 sp__law_cut) (F__law_draw : DFn P TB.w K mg base "_law_draw" ["_law_tape", "_law_many"] 1 sp__law_draw) : FnG P TB.w K mg base 4 f fd ["_law_tape", "_law_p", "_law_size"] (liftSp K mg sp__law_straight_pages) :=
  fn_ok (d := b__law_straight_pages) R.F sc__law_straight_pages (fun cdv A outer s H E hr hG => by
    have nd := sc__law_straight_pages.nd
    have hu := units_of hr
    exact (dss_cons (ds_asg (de_tup (da_cons (de_op op_fAdd de_int (de_call F__law_draw (hr.mono (by decide)) hG rfl (da_cons (de_var 0) (da_cons (de_op op_fSub (de_var 1) de_int) da_nil)))) (da_cons (de_call F__law_draw (hr.mono (by decide)) hG rfl (da_cons (de_var 0) (da_cons (de_var 1) da_nil))) da_nil))) (dg_tup (n := 2) rfl (dgs_cons (dg_name (i := 3) nd) (dgs_cons (dg_name (i := 4) nd) dgs_nil)))) (dss_cons (ds_set (i := 5) nd (de_op op_fAdd (de_tup (da_cons (de_op op_fMod (de_op op_fSub de_int (de_var 3)) (de_var 1)) da_nil)) (de_call F__law_beads (hr.mono (by decide)) hG rfl (da_cons (de_var 0) (da_cons (de_var 1) (da_cons (de_call F__law_draw (hr.mono (by decide)) hG rfl (da_cons (de_var 0) (da_cons (de_var 2) da_nil))) da_nil)))))) (dss_one (ds_ret (de_comp (own := [("_law_c", 6)]) rfl nd (di_range1 rfl T.m_range (da_cons (de_var 1) da_nil)) (by kernel_rfl) (tgok_n (i := 6) (by decide)) (fun _ _ _ _ _ => pg_name (i := 6) nd rfl (by first | exact Or.inl rfl | exact Or.inr rfl)) (fun _ _ _ _ _ => dts_nil) (fun _ _ _ _ _ => (de_tup (da_cons (de_var 3) (da_cons (de_var 4) (da_cons (de_call F__law_cut (hr.mono (by decide)) hG rfl (da_cons (de_comp (own := [("_law_bead", 7)]) rfl nd (di_seq (de_var 5)) (by kernel_rfl) (tgok_n (i := 7) (by decide)) (fun _ _ _ _ _ => pg_name (i := 7) nd rfl (by first | exact Or.inl rfl | exact Or.inr rfl)) (fun _ _ _ _ _ => dts_nil) (fun _ _ _ _ _ => (de_op op_fMod (de_op op_fMul (de_var 7) (de_var 6)) (de_var 1)))) da_nil)) da_nil))))))))))) hd__law_straight_pages
theorem ok__law_prime {f : Addr} {fd : FuncData} (T : Txt mg) (R : Raw K mg "_law_prime" s__law_prime f fd) (F__law_pick : DFn P TB.w K mg base "_law_pick" ["_law_tape", "_law_some"] 2 sp__law_pick) : FnG P TB.w K mg base 3 f fd ["_law_tape"] (liftSp K mg sp__law_prime) :=
  fn_ok (d := b__law_prime) R.F sc__law_prime (fun cdv A outer s H E hr hG => by
    have nd := sc__law_prime.nd
    have hu := units_of hr
    exact (dss_one (ds_ret (de_call F__law_pick (hr.mono (by decide)) hG rfl (da_cons (de_var 0) (da_cons (de_lst (da_cons de_int (da_cons de_int (da_cons de_int (da_cons de_int da_nil))))) da_nil)))))) hd__law_prime
theorem ok__law_begun {f : Addr} {fd : FuncData} (T : Txt mg) (R : Raw K mg "_law_begun" s__law_begun f fd)  : FnG P TB.w K mg base 1 f fd ["_law_script"] (liftSp K mg sp__law_begun) :=
  fn_ok (d := b__law_begun) R.F sc__law_begun (fun cdv A outer s H E hr hG => by
    have nd := sc__law_begun.nd
    have hu := units_of hr
    exact (dss_one (ds_ret (de_disp (dps_cons de_str (de_or (de_slice (de_var 0) do_none (do_some de_int)) (de_one (de_lst (da_cons de_int da_nil)))) (dps_cons de_str de_int (dps_cons de_str de_int dps_nil))))))) hd__law_begun
theorem ok_law {f : Addr} {fd : FuncData} (T : Txt mg) (R : Raw K mg "law" s_law f fd) (F__law_begun : DFn P TB.w K mg base "_law_begun" ["_law_script"] 1 sp__law_begun) (F__law_bent : DFn P TB.w K mg base "_law_bent" ["_law_tape", "_law_p", "_law_pages_here"] 2 sp__law_bent) (F__law_draw : DFn P TB.w K mg base "_law_draw" ["_law_tape", "_law_many"] 1 sp__law_draw) (F__law_due : DFn P TB.w K mg base "_law_due" ["_law_p", "_law_pages_here"] 2 sp__law_due) (F__law_pages : DFn P TB.w K mg base "_law_pages" ["_law_tape", "_law_p", "_law_size"] 4 sp__law_pages) (F__law_prime : DFn P TB.w K mg base "_law_prime" ["_law_tape"] 3 sp__law_prime) (F__law_straight_pages : DFn P TB.w K mg base "_law_straight_pages" ["_law_tape", "_law_p", "_law_size"] 4 sp__law_straight_pages) (F_plain : DFn P TB.w K mg base "plain" ["prime"] 8 sp_plain) (F_straight : DFn P TB.w K mg base "straight" ["book"] 3 sp_straight) (I_Book_0 : IFn P TB.w K mg base "Book" ["self", "prime", "pages"] 6 [] sp_Book___init__) : FnG P TB.w K mg base 9 f fd ["_law_script"] (liftSp K mg sp_law) :=
  fn_ok (d := b_law) R.F sc_law (fun cdv A outer s H E hr hG => by
    have nd := sc_law.nd
    have hu := units_of hr
    have hu64 := Nat.lt_of_le_of_lt (Nat.add_le_add_left (by decide : 64 ≤ 200) _) hu
    have hu66 := Nat.lt_of_le_of_lt (Nat.add_le_add_left (by decide : 66 ≤ 200) _) hu
    exact (dss_cons (ds_set (i := 1) nd (de_call F__law_begun (hr.mono (by decide)) hG rfl (da_cons (de_var 0) da_nil))) (dss_cons (ds_for rfl (di_range1 rfl T.m_range (da_cons (de_op op_fAdd de_int (de_callB (c_min2 rfl) rfl T.m_min bb_min (da_cons de_int (da_cons (de_callB c_len rfl T.m_len bb_len (da_cons (de_var 0) da_nil)) da_nil)))) da_nil)) (dg_name (i := 2) nd) (dss_cons (ds_set (i := 3) nd (de_call F__law_prime (hr.mono (by decide)) hG rfl (da_cons (de_var 1) da_nil))) (dss_cons (ds_set (i := 4) nd (de_call F__law_straight_pages (hr.mono (by decide)) hG rfl (da_cons (de_var 1) (da_cons (de_var 3) (da_cons de_int da_nil))))) (dss_cons (ds_for rfl (di_seq (de_tup (da_cons (de_var 4) (da_cons (de_call F__law_bent (hr.mono (by decide)) hG rfl (da_cons (de_var 1) (da_cons (de_var 3) (da_cons (de_var 4) da_nil)))) (da_cons (de_call F__law_pages (hr.mono (by decide)) hG rfl (da_cons (de_var 1) (da_cons (de_var 3) (da_cons (de_op op_fAdd de_int (de_call F__law_draw (hr.mono (by decide)) hG rfl (da_cons (de_var 1) (da_cons de_int da_nil)))) da_nil)))) da_nil))))) (dg_name (i := 5) nd) (dss_one (ds_if (dt_cmp (op_fNe hu64) (de_callB (c_repr hG hu66) rfl T.m_repr bb_repr (da_cons (de_call F_straight (hr.mono (by decide)) hG rfl (da_cons (de_make I_Book_0 (hr.mono (by decide)) hG rfl (da_cons (de_var 3) (da_cons (de_var 5) da_nil))) da_nil)) da_nil)) (de_callB (c_repr hG hu66) rfl T.m_repr bb_repr (da_cons (de_call F__law_due (hr.mono (by decide)) hG rfl (da_cons (de_var 3) (da_cons (de_var 5) da_nil))) da_nil))) (dss_one (ds_ret de_bl)) dss_nil))) (dss_one (ds_if (dt_cmp (op_fNe hu64) (de_callB (c_repr hG hu66) rfl T.m_repr bb_repr (da_cons (de_call F_straight (hr.mono (by decide)) hG rfl (da_cons (de_call F_plain (hr.mono (by decide)) hG rfl (da_cons (de_var 3) da_nil)) da_nil)) da_nil)) (de_callB (c_repr hG hu66) rfl T.m_repr bb_repr (da_cons (de_tup (da_cons de_int (da_cons de_int (da_cons (de_tup (da_cons (de_op op_fSub (de_var 3) de_int) da_nil)) da_nil)))) da_nil))) (dss_one (ds_ret de_bl)) dss_nil)))))) (dss_one (ds_ret de_bl))))) hd_law
end
theorem all_mk [tb : TB] {l : PySem.W.OpenLaw} {K : Frag} {h : Heap} {mg : Str → Option Value} {fa : Addr} (X : K.In h) (G : h.Ns mainGlobals mg) (hfa : mg "law" = some (.ref fa))
    {C_Book : Addr}
    (gc_Book : PySem.W.nsIn K mainGlobals "Book" = some (some (.ref C_Book)))
    (pg_Book : PySem.W.plainGet K C_Book Str.empty = true)
    (hd_Book : PySem.W.hasDictIn K C_Book = true)
    (po_Book : PySem.W.plainOver K C_Book = true)
    (sa_Book : PySem.W.findIn K (.ref C_Book) "__setattr__" = some (some (.builtin "object.__setattr__")))
    (mk_Book : PySem.W.makesIn K C_Book = true)
    (kc_Book : PySem.W.keepIn K (.ref C_Book) = true)
    (ca_Book : PySem.W.findIn K (.ref C_Book) "__class__" = some (some (.builtin "object.__class__")))
    (cn_Book : PySem.W.specialIn K (.builtin "object.__class__") "__get__" = some (some (.builtin "getset_descriptor.__get__")))
    (ct_Book : PySem.W.takesIn K (.builtin "object.__class__") = some true)
    (ob_Book : PySem.W.mroIn K C_Book (.type "object") = some true)
    (ty_Book : PySem.W.typeIn K (.ref C_Book) = some (.type "type"))
    (nf_Book_base : PySem.W.findIn K (.ref C_Book) "base" = some none)
    (nf_Book_leaves : PySem.W.findIn K (.ref C_Book) "leaves" = some none)
    {f0 : Addr} {od0 an0 : Option Addr} {sl0 : Array (Option Value)} {oc0 kV0 dc0 pm0 cd0 ct0 : Value}
    (a0 : PySem.W.nsIn K mainGlobals "trimmed" = some (some (.ref f0))) (l0 : K.lookup f0 = some ⟨oc0, od0, .func (PySem.W.fnOf "trimmed" "trimmed" (defArgs s_trimmed) (defBody s_trimmed) (defScope s_trimmed) .none kV0 dc0 pm0 an0 cd0 ct0), sl0⟩) (c0 : PySem.W.codeIn K cd0 "trimmed" = true) (k0 : PySem.W.keepIn K (.ref f0) = true)
    {f1 : Addr} {od1 an1 : Option Addr} {sl1 : Array (Option Value)} {oc1 kV1 dc1 pm1 cd1 ct1 : Value}
    (a1 : PySem.W.nsIn K mainGlobals "bead_at" = some (some (.ref f1))) (l1 : K.lookup f1 = some ⟨oc1, od1, .func (PySem.W.fnOf "bead_at" "bead_at" (defArgs s_bead_at) (defBody s_bead_at) (defScope s_bead_at) .none kV1 dc1 pm1 an1 cd1 ct1), sl1⟩) (c1 : PySem.W.codeIn K cd1 "bead_at" = true) (k1 : PySem.W.keepIn K (.ref f1) = true)
    {f2 : Addr} {od2 an2 : Option Addr} {sl2 : Array (Option Value)} {oc2 kV2 dc2 pm2 cd2 ct2 : Value}
    (a2 : PySem.W.nsIn K mainGlobals "is_whole" = some (some (.ref f2))) (l2 : K.lookup f2 = some ⟨oc2, od2, .func (PySem.W.fnOf "is_whole" "is_whole" (defArgs s_is_whole) (defBody s_is_whole) (defScope s_is_whole) .none kV2 dc2 pm2 an2 cd2 ct2), sl2⟩) (c2 : PySem.W.codeIn K cd2 "is_whole" = true) (k2 : PySem.W.keepIn K (.ref f2) = true)
    {f3 : Addr} {od3 an3 : Option Addr} {sl3 : Array (Option Value)} {oc3 kV3 dc3 pm3 cd3 ct3 : Value}
    (a3 : PySem.W.nsIn K mainGlobals "is_colour" = some (some (.ref f3))) (l3 : K.lookup f3 = some ⟨oc3, od3, .func (PySem.W.fnOf "is_colour" "is_colour" (defArgs s_is_colour) (defBody s_is_colour) (defScope s_is_colour) .none kV3 dc3 pm3 an3 cd3 ct3), sl3⟩) (c3 : PySem.W.codeIn K cd3 "is_colour" = true) (k3 : PySem.W.keepIn K (.ref f3) = true)
    {f4 : Addr} {od4 an4 : Option Addr} {sl4 : Array (Option Value)} {oc4 kV4 dc4 pm4 cd4 ct4 : Value}
    (a4 : PySem.W.nsIn K mainGlobals "is_word" = some (some (.ref f4))) (l4 : K.lookup f4 = some ⟨oc4, od4, .func (PySem.W.fnOf "is_word" "is_word" (defArgs s_is_word) (defBody s_is_word) (defScope s_is_word) .none kV4 dc4 pm4 an4 cd4 ct4), sl4⟩) (c4 : PySem.W.codeIn K cd4 "is_word" = true) (k4 : PySem.W.keepIn K (.ref f4) = true)
    {f5 : Addr} {od5 an5 : Option Addr} {sl5 : Array (Option Value)} {oc5 kV5 dc5 pm5 cd5 ct5 : Value}
    (a5 : PySem.W.nsIn K mainGlobals "is_finite" = some (some (.ref f5))) (l5 : K.lookup f5 = some ⟨oc5, od5, .func (PySem.W.fnOf "is_finite" "is_finite" (defArgs s_is_finite) (defBody s_is_finite) (defScope s_is_finite) .none kV5 dc5 pm5 an5 cd5 ct5), sl5⟩) (c5 : PySem.W.codeIn K cd5 "is_finite" = true) (k5 : PySem.W.keepIn K (.ref f5) = true)
    {f6 : Addr} {od6 an6 : Option Addr} {sl6 : Array (Option Value)} {oc6 kV6 dc6 pm6 cd6 ct6 : Value}
    (a6 : PySem.W.nsIn K mainGlobals "is_page" = some (some (.ref f6))) (l6 : K.lookup f6 = some ⟨oc6, od6, .func (PySem.W.fnOf "is_page" "is_page" (defArgs s_is_page) (defBody s_is_page) (defScope s_is_page) .none kV6 dc6 pm6 an6 cd6 ct6), sl6⟩) (c6 : PySem.W.codeIn K cd6 "is_page" = true) (k6 : PySem.W.keepIn K (.ref f6) = true)
    {f7 : Addr} {od7 an7 : Option Addr} {sl7 : Array (Option Value)} {oc7 kV7 dc7 pm7 cd7 ct7 : Value}
    (a7 : PySem.W.nsIn K mainGlobals "is_prime" = some (some (.ref f7))) (l7 : K.lookup f7 = some ⟨oc7, od7, .func (PySem.W.fnOf "is_prime" "is_prime" (defArgs s_is_prime) (defBody s_is_prime) (defScope s_is_prime) .none kV7 dc7 pm7 an7 cd7 ct7), sl7⟩) (c7 : PySem.W.codeIn K cd7 "is_prime" = true) (k7 : PySem.W.keepIn K (.ref f7) = true)
    {f8 : Addr} {od8 an8 : Option Addr} {sl8 : Array (Option Value)} {oc8 kV8 dc8 pm8 cd8 ct8 : Value}
    (a8 : PySem.W.findIn K (.ref C_Book) "__init__" = some (some (.ref f8))) (l8 : K.lookup f8 = some ⟨oc8, od8, .func (PySem.W.fnOf "__init__" "Book.__init__" (defArgs s_Book___init__) (defBody s_Book___init__) (defScope s_Book___init__) .none kV8 dc8 pm8 an8 cd8 ct8), sl8⟩) (c8 : PySem.W.codeIn K cd8 "Book.__init__" = true) (k8 : PySem.W.keepIn K (.ref f8) = true) (i8 : PySem.W.isFn K (.ref f8) = true)
    {f9 : Addr} {od9 an9 : Option Addr} {sl9 : Array (Option Value)} {oc9 kV9 dc9 pm9 cd9 ct9 : Value}
    (a9 : PySem.W.nsIn K mainGlobals "plain" = some (some (.ref f9))) (l9 : K.lookup f9 = some ⟨oc9, od9, .func (PySem.W.fnOf "plain" "plain" (defArgs s_plain) (defBody s_plain) (defScope s_plain) .none kV9 dc9 pm9 an9 cd9 ct9), sl9⟩) (c9 : PySem.W.codeIn K cd9 "plain" = true) (k9 : PySem.W.keepIn K (.ref f9) = true)
    {f10 : Addr} {od10 an10 : Option Addr} {sl10 : Array (Option Value)} {oc10 kV10 dc10 pm10 cd10 ct10 : Value}
    (a10 : PySem.W.findIn K (.ref C_Book) "prime" = some (some (.ref f10))) (l10 : K.lookup f10 = some ⟨oc10, od10, .func (PySem.W.fnOf "prime" "Book.prime" (defArgs s_Book_prime) (defBody s_Book_prime) (defScope s_Book_prime) .none kV10 dc10 pm10 an10 cd10 ct10), sl10⟩) (c10 : PySem.W.codeIn K cd10 "Book.prime" = true) (k10 : PySem.W.keepIn K (.ref f10) = true) (i10 : PySem.W.isFn K (.ref f10) = true)
    {f11 : Addr} {od11 an11 : Option Addr} {sl11 : Array (Option Value)} {oc11 kV11 dc11 pm11 cd11 ct11 : Value}
    (a11 : PySem.W.nsIn K mainGlobals "scaled" = some (some (.ref f11))) (l11 : K.lookup f11 = some ⟨oc11, od11, .func (PySem.W.fnOf "scaled" "scaled" (defArgs s_scaled) (defBody s_scaled) (defScope s_scaled) .none kV11 dc11 pm11 an11 cd11 ct11), sl11⟩) (c11 : PySem.W.codeIn K cd11 "scaled" = true) (k11 : PySem.W.keepIn K (.ref f11) = true)
    {f12 : Addr} {od12 an12 : Option Addr} {sl12 : Array (Option Value)} {oc12 kV12 dc12 pm12 cd12 ct12 : Value}
    (a12 : PySem.W.findIn K (.ref C_Book) "pages" = some (some (.ref f12))) (l12 : K.lookup f12 = some ⟨oc12, od12, .func (PySem.W.fnOf "pages" "Book.pages" (defArgs s_Book_pages) (defBody s_Book_pages) (defScope s_Book_pages) .none kV12 dc12 pm12 an12 cd12 ct12), sl12⟩) (c12 : PySem.W.codeIn K cd12 "Book.pages" = true) (k12 : PySem.W.keepIn K (.ref f12) = true) (i12 : PySem.W.isFn K (.ref f12) = true)
    {f13 : Addr} {od13 an13 : Option Addr} {sl13 : Array (Option Value)} {oc13 kV13 dc13 pm13 cd13 ct13 : Value}
    (a13 : PySem.W.nsIn K mainGlobals "straight" = some (some (.ref f13))) (l13 : K.lookup f13 = some ⟨oc13, od13, .func (PySem.W.fnOf "straight" "straight" (defArgs s_straight) (defBody s_straight) (defScope s_straight) .none kV13 dc13 pm13 an13 cd13 ct13), sl13⟩) (c13 : PySem.W.codeIn K cd13 "straight" = true) (k13 : PySem.W.keepIn K (.ref f13) = true)
    {f14 : Addr} {od14 an14 : Option Addr} {sl14 : Array (Option Value)} {oc14 kV14 dc14 pm14 cd14 ct14 : Value}
    (a14 : PySem.W.nsIn K mainGlobals "_law_draw" = some (some (.ref f14))) (l14 : K.lookup f14 = some ⟨oc14, od14, .func (PySem.W.fnOf "_law_draw" "_law_draw" (defArgs s__law_draw) (defBody s__law_draw) (defScope s__law_draw) .none kV14 dc14 pm14 an14 cd14 ct14), sl14⟩) (c14 : PySem.W.codeIn K cd14 "_law_draw" = true) (k14 : PySem.W.keepIn K (.ref f14) = true)
    {f15 : Addr} {od15 an15 : Option Addr} {sl15 : Array (Option Value)} {oc15 kV15 dc15 pm15 cd15 ct15 : Value}
    (a15 : PySem.W.nsIn K mainGlobals "_law_pick" = some (some (.ref f15))) (l15 : K.lookup f15 = some ⟨oc15, od15, .func (PySem.W.fnOf "_law_pick" "_law_pick" (defArgs s__law_pick) (defBody s__law_pick) (defScope s__law_pick) .none kV15 dc15 pm15 an15 cd15 ct15), sl15⟩) (c15 : PySem.W.codeIn K cd15 "_law_pick" = true) (k15 : PySem.W.keepIn K (.ref f15) = true)
    {f16 : Addr} {od16 an16 : Option Addr} {sl16 : Array (Option Value)} {oc16 kV16 dc16 pm16 cd16 ct16 : Value}
    (a16 : PySem.W.nsIn K mainGlobals "_law_beads" = some (some (.ref f16))) (l16 : K.lookup f16 = some ⟨oc16, od16, .func (PySem.W.fnOf "_law_beads" "_law_beads" (defArgs s__law_beads) (defBody s__law_beads) (defScope s__law_beads) .none kV16 dc16 pm16 an16 cd16 ct16), sl16⟩) (c16 : PySem.W.codeIn K cd16 "_law_beads" = true) (k16 : PySem.W.keepIn K (.ref f16) = true)
    {f17 : Addr} {od17 an17 : Option Addr} {sl17 : Array (Option Value)} {oc17 kV17 dc17 pm17 cd17 ct17 : Value}
    (a17 : PySem.W.nsIn K mainGlobals "_law_cut" = some (some (.ref f17))) (l17 : K.lookup f17 = some ⟨oc17, od17, .func (PySem.W.fnOf "_law_cut" "_law_cut" (defArgs s__law_cut) (defBody s__law_cut) (defScope s__law_cut) .none kV17 dc17 pm17 an17 cd17 ct17), sl17⟩) (c17 : PySem.W.codeIn K cd17 "_law_cut" = true) (k17 : PySem.W.keepIn K (.ref f17) = true)
    {f18 : Addr} {od18 an18 : Option Addr} {sl18 : Array (Option Value)} {oc18 kV18 dc18 pm18 cd18 ct18 : Value}
    (a18 : PySem.W.nsIn K mainGlobals "_law_pages" = some (some (.ref f18))) (l18 : K.lookup f18 = some ⟨oc18, od18, .func (PySem.W.fnOf "_law_pages" "_law_pages" (defArgs s__law_pages) (defBody s__law_pages) (defScope s__law_pages) .none kV18 dc18 pm18 an18 cd18 ct18), sl18⟩) (c18 : PySem.W.codeIn K cd18 "_law_pages" = true) (k18 : PySem.W.keepIn K (.ref f18) = true)
    {f19 : Addr} {od19 an19 : Option Addr} {sl19 : Array (Option Value)} {oc19 kV19 dc19 pm19 cd19 ct19 : Value}
    (a19 : PySem.W.nsIn K mainGlobals "_law_bent" = some (some (.ref f19))) (l19 : K.lookup f19 = some ⟨oc19, od19, .func (PySem.W.fnOf "_law_bent" "_law_bent" (defArgs s__law_bent) (defBody s__law_bent) (defScope s__law_bent) .none kV19 dc19 pm19 an19 cd19 ct19), sl19⟩) (c19 : PySem.W.codeIn K cd19 "_law_bent" = true) (k19 : PySem.W.keepIn K (.ref f19) = true)
    {f20 : Addr} {od20 an20 : Option Addr} {sl20 : Array (Option Value)} {oc20 kV20 dc20 pm20 cd20 ct20 : Value}
    (a20 : PySem.W.nsIn K mainGlobals "_law_due" = some (some (.ref f20))) (l20 : K.lookup f20 = some ⟨oc20, od20, .func (PySem.W.fnOf "_law_due" "_law_due" (defArgs s__law_due) (defBody s__law_due) (defScope s__law_due) .none kV20 dc20 pm20 an20 cd20 ct20), sl20⟩) (c20 : PySem.W.codeIn K cd20 "_law_due" = true) (k20 : PySem.W.keepIn K (.ref f20) = true)
    {f21 : Addr} {od21 an21 : Option Addr} {sl21 : Array (Option Value)} {oc21 kV21 dc21 pm21 cd21 ct21 : Value}
    (a21 : PySem.W.nsIn K mainGlobals "_law_straight_pages" = some (some (.ref f21))) (l21 : K.lookup f21 = some ⟨oc21, od21, .func (PySem.W.fnOf "_law_straight_pages" "_law_straight_pages" (defArgs s__law_straight_pages) (defBody s__law_straight_pages) (defScope s__law_straight_pages) .none kV21 dc21 pm21 an21 cd21 ct21), sl21⟩) (c21 : PySem.W.codeIn K cd21 "_law_straight_pages" = true) (k21 : PySem.W.keepIn K (.ref f21) = true)
    {f22 : Addr} {od22 an22 : Option Addr} {sl22 : Array (Option Value)} {oc22 kV22 dc22 pm22 cd22 ct22 : Value}
    (a22 : PySem.W.nsIn K mainGlobals "_law_prime" = some (some (.ref f22))) (l22 : K.lookup f22 = some ⟨oc22, od22, .func (PySem.W.fnOf "_law_prime" "_law_prime" (defArgs s__law_prime) (defBody s__law_prime) (defScope s__law_prime) .none kV22 dc22 pm22 an22 cd22 ct22), sl22⟩) (c22 : PySem.W.codeIn K cd22 "_law_prime" = true) (k22 : PySem.W.keepIn K (.ref f22) = true)
    {f23 : Addr} {od23 an23 : Option Addr} {sl23 : Array (Option Value)} {oc23 kV23 dc23 pm23 cd23 ct23 : Value}
    (a23 : PySem.W.nsIn K mainGlobals "_law_begun" = some (some (.ref f23))) (l23 : K.lookup f23 = some ⟨oc23, od23, .func (PySem.W.fnOf "_law_begun" "_law_begun" (defArgs s__law_begun) (defBody s__law_begun) (defScope s__law_begun) .none kV23 dc23 pm23 an23 cd23 ct23), sl23⟩) (c23 : PySem.W.codeIn K cd23 "_law_begun" = true) (k23 : PySem.W.keepIn K (.ref f23) = true)
    {f24 : Addr} {od24 an24 : Option Addr} {sl24 : Array (Option Value)} {oc24 kV24 dc24 pm24 cd24 ct24 : Value}
    (a24 : PySem.W.nsIn K mainGlobals "law" = some (some (.ref f24))) (l24 : K.lookup f24 = some ⟨oc24, od24, .func (PySem.W.fnOf "law" "law" (defArgs s_law) (defBody s_law) (defScope s_law) .none kV24 dc24 pm24 an24 cd24 ct24), sl24⟩) (c24 : PySem.W.codeIn K cd24 "law" = true) (k24 : PySem.W.keepIn K (.ref f24) = true)
    (z0 : PySem.W.nsIn K mainGlobals "ValueError" = some none)
    (z1 : PySem.W.nsIn K mainGlobals "all" = some none)
    (z2 : PySem.W.nsIn K mainGlobals "bool" = some none)
    (z3 : PySem.W.nsIn K mainGlobals "enumerate" = some none)
    (z4 : PySem.W.nsIn K mainGlobals "int" = some none)
    (z5 : PySem.W.nsIn K mainGlobals "isinstance" = some none)
    (z6 : PySem.W.nsIn K mainGlobals "len" = some none)
    (z7 : PySem.W.nsIn K mainGlobals "list" = some none)
    (z8 : PySem.W.nsIn K mainGlobals "max" = some none)
    (z9 : PySem.W.nsIn K mainGlobals "min" = some none)
    (z10 : PySem.W.nsIn K mainGlobals "range" = some none)
    (z11 : PySem.W.nsIn K mainGlobals "repr" = some none)
    (z12 : PySem.W.nsIn K mainGlobals "tuple" = some none)
    {A_PRIMES : Addr} {od_PRIMES : Option Addr} {its_PRIMES : Array Value} {nn_PRIMES : Nat} {sl_PRIMES : Array (Option Value)} (gk_PRIMES : PySem.W.nsIn K mainGlobals "PRIMES" = some (some (.ref A_PRIMES))) (lk_PRIMES : K.lookup A_PRIMES = some ⟨.type "tuple", od_PRIMES, .seq its_PRIMES nn_PRIMES, sl_PRIMES⟩) (vk_PRIMES : intsIs [2, 3, 5] its_PRIMES.toList = true) {C_NoBook : Addr} (gc_NoBook : PySem.W.nsIn K mainGlobals "NoBook" = some (some (.ref C_NoBook))) {fX_NoBook : Addr} {odX_NoBook anX_NoBook : Option Addr} {slX_NoBook : Array (Option Value)} {ocX_NoBook kVX_NoBook dcX_NoBook pmX_NoBook cdX_NoBook ctX_NoBook : Value} (xi_NoBook : PySem.W.excInitIn K C_NoBook [.type "ValueError", .type "Exception", .type "BaseException", .type "object"] "ValueError.__new__" = true) (kc_NoBook : PySem.W.keepIn K (.ref C_NoBook) = true) (bc_NoBook : PySem.W.subIn K (.ref C_NoBook) (.type "BaseException") = some true) (tc_NoBook : PySem.W.typeIn K (.ref C_NoBook) = some (.type "type")) (dc_NoBook : PySem.W.hasDictIn K C_NoBook = true) (xs_NoBook : PySem.W.findIn K (.ref C_NoBook) "__setattr__" = some (some (.builtin "object.__setattr__"))) (xf_NoBook : PySem.W.findIn K (.ref C_NoBook) "colour" = some none) (xn_NoBook : PySem.W.findIn K (.ref C_NoBook) "__init__" = some (some (.ref fX_NoBook))) (xt_NoBook : PySem.W.typeIn K (.ref fX_NoBook) = some (.type "function")) (xv_NoBook : PySem.W.findCls K (.type "ValueError") (.type "type") "__init__" = some (.val (.builtin "ValueError.__init__"))) (xl_NoBook : K.lookup fX_NoBook = some ⟨ocX_NoBook, odX_NoBook, .func (PySem.W.fnOf "__init__" "NoBook.__init__" (defArgs sx_NoBook) (defBody sx_NoBook) (defScope sx_NoBook) .none kVX_NoBook dcX_NoBook pmX_NoBook anX_NoBook cdX_NoBook ctX_NoBook), slX_NoBook⟩) (xk_NoBook : PySem.W.codeIn K cdX_NoBook "NoBook.__init__" = true)
    : ∃ fd : FuncData, (∀ (s : Shared) (v : Value), BindsTo s fd ⟨[v], []⟩ [("_law_script", v)]) ∧ ∀ base : Heap, K.In base → base.Ns mainGlobals mg → FnG l.prog TB.w K mg base 9 fa fd ["_law_script"] (liftSp K mg lawSp) := by
  have e := hfa.symm.trans (PySem.W.mg_of X G a24)
  cases e
  have T : Txt mg := ⟨PySem.W.mg_none_of X G z0, PySem.W.mg_none_of X G z1, PySem.W.mg_none_of X G z2, PySem.W.mg_none_of X G z3, PySem.W.mg_none_of X G z4, PySem.W.mg_none_of X G z5, PySem.W.mg_none_of X G z6, PySem.W.mg_none_of X G z7, PySem.W.mg_none_of X G z8, PySem.W.mg_none_of X G z9, PySem.W.mg_none_of X G z10, PySem.W.mg_none_of X G z11, PySem.W.mg_none_of X G z12⟩
  have A_Book : ClsA K mg "Book" C_Book := ⟨PySem.W.mg_of X G gc_Book, ⟨pg_Book, hd_Book, po_Book, sa_Book⟩, mk_Book, kc_Book, ca_Book, cn_Book, ct_Book, ob_Book, ty_Book⟩
  have D_Book_base := A_Book.fld nf_Book_base
  have D_Book_leaves := A_Book.fld nf_Book_leaves
  have K_PRIMES : TupG K mg "PRIMES" [2, 3, 5] := tupG_mk (PySem.W.mg_of X G gk_PRIMES) lk_PRIMES vk_PRIMES
  have g_NoBook := PySem.W.mg_of X G gc_NoBook
  have R0 := raw_mk (st := s_trimmed) X G a0 l0 c0 k0
  have R1 := raw_mk (st := s_bead_at) X G a1 l1 c1 k1
  have R2 := raw_mk (st := s_is_whole) X G a2 l2 c2 k2
  have R3 := raw_mk (st := s_is_colour) X G a3 l3 c3 k3
  have R4 := raw_mk (st := s_is_word) X G a4 l4 c4 k4
  have R5 := raw_mk (st := s_is_finite) X G a5 l5 c5 k5
  have R6 := raw_mk (st := s_is_page) X G a6 l6 c6 k6
  have R7 := raw_mk (st := s_is_prime) X G a7 l7 c7 k7
  have R8 := funl_mk (st := s_Book___init__) l8 c8
  have R9 := raw_mk (st := s_plain) X G a9 l9 c9 k9
  have R10 := funl_mk (st := s_Book_prime) l10 c10
  have R11 := raw_mk (st := s_scaled) X G a11 l11 c11 k11
  have R12 := funl_mk (st := s_Book_pages) l12 c12
  have R13 := raw_mk (st := s_straight) X G a13 l13 c13 k13
  have R14 := raw_mk (st := s__law_draw) X G a14 l14 c14 k14
  have R15 := raw_mk (st := s__law_pick) X G a15 l15 c15 k15
  have R16 := raw_mk (st := s__law_beads) X G a16 l16 c16 k16
  have R17 := raw_mk (st := s__law_cut) X G a17 l17 c17 k17
  have R18 := raw_mk (st := s__law_pages) X G a18 l18 c18 k18
  have R19 := raw_mk (st := s__law_bent) X G a19 l19 c19 k19
  have R20 := raw_mk (st := s__law_due) X G a20 l20 c20 k20
  have R21 := raw_mk (st := s__law_straight_pages) X G a21 l21 c21 k21
  have R22 := raw_mk (st := s__law_prime) X G a22 l22 c22 k22
  have R23 := raw_mk (st := s__law_begun) X G a23 l23 c23 k23
  have R24 := raw_mk (st := s_law) X G a24 l24 c24 k24
  refine ⟨PySem.W.fnOf "law" "law" (defArgs s_law) (defBody s_law) (defScope s_law) .none kV24 dc24 pm24 an24 cd24 ct24, fun s v => .of_eq rfl, fun base _ _ => ?_⟩
  have BX_NoBook : Binds K (PySem.W.fnOf "__init__" "NoBook.__init__" (defArgs sx_NoBook) (defBody sx_NoBook) (defScope sx_NoBook) .none kVX_NoBook dcX_NoBook pmX_NoBook anX_NoBook cdX_NoBook ctX_NoBook) ["self", "colour"] [] := .all fun us hl => match us, hl with | [_, _], _ => rfl
  have XM_NoBook : XMk l.prog TB.w K mg base "NoBook" "colour" := ⟨⟨C_NoBook, fX_NoBook, _, "colour", "ValueError", _, _, _, g_NoBook, oexB_mk xi_NoBook dc_NoBook xs_NoBook bc_NoBook tc_NoBook kc_NoBook, xbs_ValueError, xf_NoBook, xn_NoBook, xt_NoBook, xinit_ok 0 xbs_ValueError (funl_mk (st := sx_NoBook) xl_NoBook xk_NoBook) scx_NoBook rfl T.m_ValueError bb_ValueError (by decide) (by decide) xv_NoBook (fun _ _ _ => rfl) (by first | exact Or.inl rfl | exact Or.inr (Or.inl rfl) | exact Or.inr (Or.inr rfl)) (by first | exact Or.inl rfl | exact Or.inr (Or.inl rfl) | exact Or.inr (Or.inr rfl)) (by decide) (by decide) (fun _ _ _ => rfl), BX_NoBook⟩⟩
  have F_trimmed : DFn l.prog TB.w K mg base "trimmed" ["beads"] 1 sp_trimmed := dfn_mk R0 (R0.F.binds (ps := ["beads"]) fun _ _ _ _ _ _ us hl => match us, hl with | [_], _ => rfl) (ok_trimmed T R0 )
  have F_bead_at : DFn l.prog TB.w K mg base "bead_at" ["beads", "place"] 1 sp_bead_at := dfn_mk R1 (R1.F.binds (ps := ["beads", "place"]) fun _ _ _ _ _ _ us hl => match us, hl with | [_, _], _ => rfl) (ok_bead_at T R1 )
  have F_is_whole : DFn l.prog TB.w K mg base "is_whole" ["thing"] 1 sp_is_whole := dfn_mk R2 (R2.F.binds (ps := ["thing"]) fun _ _ _ _ _ _ us hl => match us, hl with | [_], _ => rfl) (ok_is_whole T R2 )
  have F_is_colour : DFn l.prog TB.w K mg base "is_colour" ["prime", "thing"] 2 sp_is_colour := dfn_mk R3 (R3.F.binds (ps := ["prime", "thing"]) fun _ _ _ _ _ _ us hl => match us, hl with | [_, _], _ => rfl) (ok_is_colour T R3 F_is_whole )
  have F_is_word : DFn l.prog TB.w K mg base "is_word" ["prime", "thing"] 3 sp_is_word := dfn_mk R4 (R4.F.binds (ps := ["prime", "thing"]) fun _ _ _ _ _ _ us hl => match us, hl with | [_, _], _ => rfl) (ok_is_word T R4 F_is_colour )
  have F_is_finite : DFn l.prog TB.w K mg base "is_finite" ["prime", "thing"] 4 sp_is_finite := dfn_mk R5 (R5.F.binds (ps := ["prime", "thing"]) fun _ _ _ _ _ _ us hl => match us, hl with | [_, _], _ => rfl) (ok_is_finite T R5 F_is_word )
  have F_is_page : DFn l.prog TB.w K mg base "is_page" ["prime", "colour", "thing"] 5 sp_is_page := dfn_mk R6 (R6.F.binds (ps := ["prime", "colour", "thing"]) fun _ _ _ _ _ _ us hl => match us, hl with | [_, _, _], _ => rfl) (ok_is_page T R6 F_bead_at F_is_colour F_is_finite )
  have F_is_prime : DFn l.prog TB.w K mg base "is_prime" ["thing"] 2 sp_is_prime := dfn_mk R7 (R7.F.binds (ps := ["thing"]) fun _ _ _ _ _ _ us hl => match us, hl with | [_], _ => rfl) (ok_is_prime T R7 F_is_whole K_PRIMES)
  have G_Book___init__ : FnG l.prog TB.w K mg base 6 f8 _ ["self", "prime", "pages"] (liftSp K mg sp_Book___init__) := ok_Book___init__ T R8 F_is_page F_is_prime D_Book_base D_Book_leaves XM_NoBook
  have B_Book___init__ : Binds K (PySem.W.fnOf "__init__" "Book.__init__" (defArgs s_Book___init__) (defBody s_Book___init__) (defScope s_Book___init__) .none kV8 dc8 pm8 an8 cd8 ct8) ["self", "prime", "pages"] [] := .all fun us hl => match us, hl with | [_, _, _], _ => rfl
  have I_Book_0 : IFn l.prog TB.w K mg base "Book" ["self", "prime", "pages"] 6 [] sp_Book___init__ := A_Book.make a8 i8 .nil (fun _ _ => .nil) B_Book___init__ G_Book___init__
  have F_plain : DFn l.prog TB.w K mg base "plain" ["prime"] 8 sp_plain := dfn_mk R9 (R9.F.binds (ps := ["prime"]) fun _ _ _ _ _ _ us hl => match us, hl with | [_], _ => rfl) (ok_plain T R9 F_is_prime F_trimmed I_Book_0 XM_NoBook)
  have G_Book_prime : FnG l.prog TB.w K mg base 1 f10 _ ["self"] (liftSp K mg sp_Book_prime) := ok_Book_prime T R10 D_Book_base
  have B_Book_prime : Binds K (PySem.W.fnOf "prime" "Book.prime" (defArgs s_Book_prime) (defBody s_Book_prime) (defScope s_Book_prime) .none kV10 dc10 pm10 an10 cd10 ct10) ["self"] [] := .all fun us hl => match us, hl with | [_], _ => rfl
  have M_Book_prime : MFn l.prog TB.w K mg base "Book" "prime" ["self"] 1 [] sp_Book_prime := A_Book.meth a10 i10 k10 B_Book_prime G_Book_prime
  have F_scaled : DFn l.prog TB.w K mg base "scaled" ["prime", "one", "colour"] 2 sp_scaled := dfn_mk R11 (R11.F.binds (ps := ["prime", "one", "colour"]) fun _ _ _ _ _ _ us hl => match us, hl with | [_, _, _], _ => rfl) (ok_scaled T R11 F_trimmed )
  have G_Book_pages : FnG l.prog TB.w K mg base 1 f12 _ ["self"] (liftSp K mg sp_Book_pages) := ok_Book_pages T R12 D_Book_leaves
  have B_Book_pages : Binds K (PySem.W.fnOf "pages" "Book.pages" (defArgs s_Book_pages) (defBody s_Book_pages) (defScope s_Book_pages) .none kV12 dc12 pm12 an12 cd12 ct12) ["self"] [] := .all fun us hl => match us, hl with | [_], _ => rfl
  have M_Book_pages : MFn l.prog TB.w K mg base "Book" "pages" ["self"] 1 [] sp_Book_pages := A_Book.meth a12 i12 k12 B_Book_pages G_Book_pages
  have F_straight : DFn l.prog TB.w K mg base "straight" ["book"] 3 sp_straight := dfn_mk R13 (R13.F.binds (ps := ["book"]) fun _ _ _ _ _ _ us hl => match us, hl with | [_], _ => rfl) (ok_straight T R13 F_scaled M_Book_pages M_Book_prime)
  have F__law_draw : DFn l.prog TB.w K mg base "_law_draw" ["_law_tape", "_law_many"] 1 sp__law_draw := dfn_mk R14 (R14.F.binds (ps := ["_law_tape", "_law_many"]) fun _ _ _ _ _ _ us hl => match us, hl with | [_, _], _ => rfl) (ok__law_draw T R14 )
  have F__law_pick : DFn l.prog TB.w K mg base "_law_pick" ["_law_tape", "_law_some"] 2 sp__law_pick := dfn_mk R15 (R15.F.binds (ps := ["_law_tape", "_law_some"]) fun _ _ _ _ _ _ us hl => match us, hl with | [_, _], _ => rfl) (ok__law_pick T R15 F__law_draw )
  have F__law_beads : DFn l.prog TB.w K mg base "_law_beads" ["_law_tape", "_law_p", "_law_many"] 3 sp__law_beads := dfn_mk R16 (R16.F.binds (ps := ["_law_tape", "_law_p", "_law_many"]) fun _ _ _ _ _ _ us hl => match us, hl with | [_, _, _], _ => rfl) (ok__law_beads T R16 F__law_draw F__law_pick )
  have F__law_cut : DFn l.prog TB.w K mg base "_law_cut" ["_law_beads_here"] 1 sp__law_cut := dfn_mk R17 (R17.F.binds (ps := ["_law_beads_here"]) fun _ _ _ _ _ _ us hl => match us, hl with | [_], _ => rfl) (ok__law_cut T R17 )
  have F__law_pages : DFn l.prog TB.w K mg base "_law_pages" ["_law_tape", "_law_p", "_law_size"] 4 sp__law_pages := dfn_mk R18 (R18.F.binds (ps := ["_law_tape", "_law_p", "_law_size"]) fun _ _ _ _ _ _ us hl => match us, hl with | [_, _, _], _ => rfl) (ok__law_pages T R18 F__law_beads F__law_cut F__law_draw )
  have F__law_bent : DFn l.prog TB.w K mg base "_law_bent" ["_law_tape", "_law_p", "_law_pages_here"] 2 sp__law_bent := dfn_mk R19 (R19.F.binds (ps := ["_law_tape", "_law_p", "_law_pages_here"]) fun _ _ _ _ _ _ us hl => match us, hl with | [_, _, _], _ => rfl) (ok__law_bent T R19 F__law_cut F__law_draw )
  have F__law_due : DFn l.prog TB.w K mg base "_law_due" ["_law_p", "_law_pages_here"] 2 sp__law_due := dfn_mk R20 (R20.F.binds (ps := ["_law_p", "_law_pages_here"]) fun _ _ _ _ _ _ us hl => match us, hl with | [_, _], _ => rfl) (ok__law_due T R20 F__law_cut )
  have F__law_straight_pages : DFn l.prog TB.w K mg base "_law_straight_pages" ["_law_tape", "_law_p", "_law_size"] 4 sp__law_straight_pages := dfn_mk R21 (R21.F.binds (ps := ["_law_tape", "_law_p", "_law_size"]) fun _ _ _ _ _ _ us hl => match us, hl with | [_, _, _], _ => rfl) (ok__law_straight_pages T R21 F__law_beads F__law_cut F__law_draw )
  have F__law_prime : DFn l.prog TB.w K mg base "_law_prime" ["_law_tape"] 3 sp__law_prime := dfn_mk R22 (R22.F.binds (ps := ["_law_tape"]) fun _ _ _ _ _ _ us hl => match us, hl with | [_], _ => rfl) (ok__law_prime T R22 F__law_pick )
  have F__law_begun : DFn l.prog TB.w K mg base "_law_begun" ["_law_script"] 1 sp__law_begun := dfn_mk R23 (R23.F.binds (ps := ["_law_script"]) fun _ _ _ _ _ _ us hl => match us, hl with | [_], _ => rfl) (ok__law_begun T R23 )
  exact ok_law T R24 F__law_begun F__law_bent F__law_draw F__law_due F__law_pages F__law_prime F__law_straight_pages F_plain F_straight I_Book_0
theorem walk {l : PySem.W.OpenLaw} {q : Program} {loose : List Str} {XP : (Str → Option Value) → Heap → Prop} {YP : World → Heap → Prop} {d : DefRec} {K : Params → Frag} (hn : l.most = some 63) (hdf : d.params.defaults = []) (hY : ∀ (w : World) (h : Heap), YP w h → (K w.params).In h)
    (F : ∀ (w : World) (mg : Str → Option Value) (fa : Addr) (h : Heap), (K w.params).In h → h.Ns mainGlobals mg → mg d.name = some (.ref fa) → ∃ fd : FuncData, (∀ (s : Shared) (u : Value), BindsTo s fd ⟨[u], []⟩ [("_law_script", u)]) ∧ ∀ base : Heap, (K w.params).In base → base.Ns mainGlobals mg → FnG l.prog w (K w.params) mg base 9 fa fd ["_law_script"] (@liftSp ⟨[], w⟩ (K w.params) mg lawSp)) :
    PySem.W.WalkO q loose XP YP l.row.toRowW d [] (fun f vs => PySem.call f vs) :=
  walk_G (n := 63) (k := 9) (x := "_law_script") (sp := fun w mg => @liftSp ⟨[], w⟩ (K w.params) mg lawSp) hn (by decide) hdf ⟨rfl, by decide, by decide⟩ hY F fun w mg H a ns hl _ hS => @law_lift ⟨[], w⟩ _ _ _ _ _ (fun _ z => nomatch z) (fun _ z => nomatch z) hl hS
end DL
open PySem PySem.W PyProof.Rows
set_option maxRecDepth 100000 in
set_option maxHeartbeats 0 in
theorem PySem.Challenge.cw_tickrow_k56_straight_or_not_holds : PySem.Challenge.rw_tickrow_k56_straight_or_not.Holds := by
  w_on; o_law; k_head; (case hw => w_witness2)
  k_fill
  refine DL.walk (l := PySem.Challenge.rw_tickrow_k56_straight_or_not) rfl rfl (fun w h Y => PySem.W.kIn_of Y) ?F
  case F =>
    intro w mg fa h KX G hmg
    refine' DL.all_mk (tb := ⟨[], w⟩) KX G hmg ?gc_Book ?pg_Book ?hd_Book ?po_Book ?sa_Book ?mk_Book ?kc_Book ?ca_Book ?cn_Book ?ct_Book ?ob_Book ?ty_Book ?nf_Book_base ?nf_Book_leaves ?a0 ?l0 ?c0 ?k0 ?a1 ?l1 ?c1 ?k1 ?a2 ?l2 ?c2 ?k2 ?a3 ?l3 ?c3 ?k3 ?a4 ?l4 ?c4 ?k4 ?a5 ?l5 ?c5 ?k5 ?a6 ?l6 ?c6 ?k6 ?a7 ?l7 ?c7 ?k7 ?a8 ?l8 ?c8 ?k8 ?i8 ?a9 ?l9 ?c9 ?k9 ?a10 ?l10 ?c10 ?k10 ?i10 ?a11 ?l11 ?c11 ?k11 ?a12 ?l12 ?c12 ?k12 ?i12 ?a13 ?l13 ?c13 ?k13 ?a14 ?l14 ?c14 ?k14 ?a15 ?l15 ?c15 ?k15 ?a16 ?l16 ?c16 ?k16 ?a17 ?l17 ?c17 ?k17 ?a18 ?l18 ?c18 ?k18 ?a19 ?l19 ?c19 ?k19 ?a20 ?l20 ?c20 ?k20 ?a21 ?l21 ?c21 ?k21 ?a22 ?l22 ?c22 ?k22 ?a23 ?l23 ?c23 ?k23 ?a24 ?l24 ?c24 ?k24 ?z0 ?z1 ?z2 ?z3 ?z4 ?z5 ?z6 ?z7 ?z8 ?z9 ?z10 ?z11 ?z12 ?gk_PRIMES ?lk_PRIMES ?vk_PRIMES ?gc_NoBook ?xi_NoBook ?kc_NoBook ?bc_NoBook ?tc_NoBook ?dc_NoBook ?xs_NoBook ?xf_NoBook ?xn_NoBook ?xt_NoBook ?xv_NoBook ?xl_NoBook ?xk_NoBook
    (case gc_Book => k_is)
    (case pg_Book => k_is)
    (case hd_Book => k_is)
    (case po_Book => k_is)
    (case sa_Book => k_is)
    (case mk_Book => k_is)
    (case kc_Book => k_is)
    (case ca_Book => k_is)
    (case cn_Book => k_is)
    (case ct_Book => k_is)
    (case ob_Book => k_is)
    (case ty_Book => k_is)
    (case nf_Book_base => k_is)
    (case nf_Book_leaves => k_is)
    (case a0 => k_is)
    (case l0 => k_is)
    (case c0 => k_is)
    (case k0 => k_is)
    (case a1 => k_is)
    (case l1 => k_is)
    (case c1 => k_is)
    (case k1 => k_is)
    (case a2 => k_is)
    (case l2 => k_is)
    (case c2 => k_is)
    (case k2 => k_is)
    (case a3 => k_is)
    (case l3 => k_is)
    (case c3 => k_is)
    (case k3 => k_is)
    (case a4 => k_is)
    (case l4 => k_is)
    (case c4 => k_is)
    (case k4 => k_is)
    (case a5 => k_is)
    (case l5 => k_is)
    (case c5 => k_is)
    (case k5 => k_is)
    (case a6 => k_is)
    (case l6 => k_is)
    (case c6 => k_is)
    (case k6 => k_is)
    (case a7 => k_is)
    (case l7 => k_is)
    (case c7 => k_is)
    (case k7 => k_is)
    (case a8 => k_is)
    (case l8 => k_is)
    (case c8 => k_is)
    (case k8 => k_is)
    (case i8 => k_is)
    (case a9 => k_is)
    (case l9 => k_is)
    (case c9 => k_is)
    (case k9 => k_is)
    (case a10 => k_is)
    (case l10 => k_is)
    (case c10 => k_is)
    (case k10 => k_is)
    (case i10 => k_is)
    (case a11 => k_is)
    (case l11 => k_is)
    (case c11 => k_is)
    (case k11 => k_is)
    (case a12 => k_is)
    (case l12 => k_is)
    (case c12 => k_is)
    (case k12 => k_is)
    (case i12 => k_is)
    (case a13 => k_is)
    (case l13 => k_is)
    (case c13 => k_is)
    (case k13 => k_is)
    (case a14 => k_is)
    (case l14 => k_is)
    (case c14 => k_is)
    (case k14 => k_is)
    (case a15 => k_is)
    (case l15 => k_is)
    (case c15 => k_is)
    (case k15 => k_is)
    (case a16 => k_is)
    (case l16 => k_is)
    (case c16 => k_is)
    (case k16 => k_is)
    (case a17 => k_is)
    (case l17 => k_is)
    (case c17 => k_is)
    (case k17 => k_is)
    (case a18 => k_is)
    (case l18 => k_is)
    (case c18 => k_is)
    (case k18 => k_is)
    (case a19 => k_is)
    (case l19 => k_is)
    (case c19 => k_is)
    (case k19 => k_is)
    (case a20 => k_is)
    (case l20 => k_is)
    (case c20 => k_is)
    (case k20 => k_is)
    (case a21 => k_is)
    (case l21 => k_is)
    (case c21 => k_is)
    (case k21 => k_is)
    (case a22 => k_is)
    (case l22 => k_is)
    (case c22 => k_is)
    (case k22 => k_is)
    (case a23 => k_is)
    (case l23 => k_is)
    (case c23 => k_is)
    (case k23 => k_is)
    (case a24 => k_is)
    (case l24 => k_is)
    (case c24 => k_is)
    (case k24 => k_is)
    (case z0 => k_is)
    (case z1 => k_is)
    (case z2 => k_is)
    (case z3 => k_is)
    (case z4 => k_is)
    (case z5 => k_is)
    (case z6 => k_is)
    (case z7 => k_is)
    (case z8 => k_is)
    (case z9 => k_is)
    (case z10 => k_is)
    (case z11 => k_is)
    (case z12 => k_is)
    (case gk_PRIMES => k_is)
    (case lk_PRIMES => k_is)
    (case vk_PRIMES => first | rfl | k_is)
    (case gc_NoBook => k_is)
    (case xi_NoBook => kx_is)
    (case kc_NoBook => k_is)
    (case bc_NoBook => k_is)
    (case tc_NoBook => k_is)
    (case dc_NoBook => k_is)
    (case xs_NoBook => k_is)
    (case xf_NoBook => k_is)
    (case xn_NoBook => k_is)
    (case xt_NoBook => k_is)
    (case xv_NoBook => k_is)
    (case xl_NoBook => k_is)
    (case xk_NoBook => k_is)
