import PyProof.Rows.All
import Wide.All
import OpenK.AllK
import Wide.FinOn
import HandS.Base
import HandS.Call
import HandS.List
import HandS.Ends
import HandS.Words
import HandS.Exc
import HandS.ExcOwn
import HandS.WordsExc
import HandS.Wide
import HandS.Dict
import HandS.TupAny
import HandS.TupLe
import HandS.Style
import HandS.IsInst
import HandS.Small
import HandS.Text
import HandS.TryOnly
import HandS.Defaults
import HandS.Lambda
import HandS.HeadHook1
import HandS.HeadHook2
import HandS.ExcIs
import KE.KExcIs
import HandS.Strs
import HandS.Comp
import HandS.Iter
import HandS.Zip
import HandS.More
import KE.DataMinMax
import HandS.Flt
import HandS.StrSplit
import HandS.HeadHook3
import HandS.EndTab
import KE.KNest
import KE.KStateDown
import HandS.Head0
import HandS.Head1
import HandS.Head2
import HandS.HeadEnd
import HandS.ExcInit
import HandS.ForDict
import HandS.CallSlots
import HandS.Flow
import PyProof.StrBlock2
import KE.GoesMore
import KE.KTurns
import KE.KTupSum
import HandS.Conv
import HandS.RaiseMore
import HandS.Replace
import HandS.ReplaceLit
import HandS.ExcField
import HandS.Sort
import PySem.Challenge.RW_rumourmart_k12_texts_refused
set_option Elab.async false
set_option linter.all false
set_option maxRecDepth 100000
set_option maxHeartbeats 4000000
set_option Elab.async false
set_option linter.all false
set_option maxRecDepth 100000
set_option maxHeartbeats 4000000
namespace N
open PySem PySem.Spec PyProof.Rows L2

/-- the tables of code objects that stand, and the names of what they hold -/
class TabList where
  T : List (Addr × Str)
/-! ### nice values and stores -/
inductive D where
  | non | bl (b : Bool) | int (i : Int) | str (x : Str) | ref (a : Addr) | ty (n : String) | cls (c : Str) | tup (ds : List D) | rol (ds : List D)

inductive Ob where
  | lst (ds : List D)
  | dic (kvs : List (Key × D))
  | ins (c : Str) (fs : List (Str × D))
  | exc (c : Str) (d : Option Addr)
  | xd (fs : List (Str × D))
  | lok (kvs : List (Key × D))

abbrev Sto := Addr → Option Ob
def put (S : Sto) (a : Addr) (o : Ob) : Sto := fun b => if b = a then some o else S b
theorem put_same {S : Sto} {a : Addr} {o : Ob} : put S a o a = some o := by unfold put; rw [if_pos rfl]
theorem put_ne {S : Sto} {a b : Addr} {o : Ob} (h : b ≠ a) : put S a o b = S b := by unfold put; rw [if_neg h]

variable [TabList]
section
variable (K : PySem.W.Frag)
def TupR (H : Hp) (a : Addr) (vs : List V) : Prop := H a = some (.tup vs) ∨
  ∃ (dd : Option Addr) (sl : Array (Option Value)) (its : List Value) (n : Nat), K.lookup a = some ⟨.type "tuple", dd, .seq its.toArray n, sl⟩ ∧ its.length ≤ sizeLine ∧ Vals vs its
def RolR (H : Hp) (a : Addr) (vs : List V) : Prop := (∃ o, H a = some (.frz o (.lst vs))) ∨
  ∃ (o : Obj) (its : Array Value) (n : Nat), K.lookup a = some o ∧ o.cls = .type "list" ∧ o.dict = none ∧ o.data = .seq its n ∧ its.size ≤ sizeLine ∧ Vals vs its.toList
theorem TupR.sq {K : PySem.W.Frag} {H : Hp} {a : Addr} {vs : List V} (h : TupR K H a vs) : SqT K H a vs := by
  rcases h with h | ⟨dd, sl, its, n, e, z, r⟩
  · exact .inl (.inl h)
  · exact .inr ⟨_, its.toArray, n, e, rfl, rfl, by simpa using z, by simpa using r⟩
theorem RolR.sq {K : PySem.W.Frag} {H : Hp} {a : Addr} {vs : List V} (h : RolR K H a vs) : SqL K H a vs := by
  rcases h with ⟨o, h⟩ | h
  · exact .inl (.inr ⟨o, h⟩)
  · exact .inr h
mutual
inductive VR (H : Hp) : D → V → Prop
  | non : VR H .non .non
  | bl (b : Bool) : VR H (.bl b) (.bl b)
  | int (i : Int) : VR H (.int i) (.int i)
  | str (x : Str) : VR H (.str x) (.str x)
  | ref (a : Addr) : VR H (.ref a) (.ref a)
  | ty (n : String) : VR H (.ty n) (.ty n)
  | cls (c : Str) : VR H (.cls c) (.ref (He.ga K c))
  | tup {a : Addr} {vs : List V} {ds : List D} : TupR K H a vs → VRs H ds vs → VR H (.tup ds) (.ref a)
  | rol {a : Addr} {vs : List V} {ds : List D} : RolR K H a vs → VRs H ds vs → VR H (.rol ds) (.ref a)
inductive VRs (H : Hp) : List D → List V → Prop
  | nil : VRs H [] []
  | cons {d : D} {ds : List D} {v : V} {vs : List V} : VR H d v → VRs H ds vs → VRs H (d :: ds) (v :: vs)
end
/-- what never changes is kept; the tables of code objects stay such -/
structure HExt (H H' : Hp) : Prop where
  tup : ∀ a vs, H a = some (.tup vs) → H' a = some (.tup vs)
  frz : ∀ a o u, H a = some (.frz o u) → H' a = some (.frz o u)
  cod : ∀ a q, H a = some (LamX.CodeO a q) → H' a = some (LamX.CodeO a q)
  tab : LamX.Tabs TabList.T H → LamX.Tabs TabList.T H'
end
/-- what is changed by statements -/
def MutN : Option HO → Prop
  | some (.lst _) => True
  | some (.dK _) => True
  | some (.ins _ _ _) => True
  | _ => False
section
variable {K : PySem.W.Frag} {H H' H1 H2 : Hp}
theorem HExt.refl (H : Hp) : HExt H H := ⟨fun _ _ h => h, fun _ _ _ h => h, fun _ _ h => h, fun h => h⟩
theorem HExt.trans (a : HExt H H1) (b : HExt H1 H2) : HExt H H2 := ⟨fun c v h => b.tup c v (a.tup c v h), fun c o u h => b.frz c o u (a.frz c o u h), fun c q h => b.cod c q (a.cod c q h), fun h => b.tab (a.tab h)⟩
theorem HExt.off {p : Addr} {u : HO} (n : ∀ a o, H a = some o → (∀ vs, o = .tup vs → a ≠ p) ∧ (∀ b v, o = .frz b v → a ≠ p) ∧ (∀ q, o = LamX.CodeO a q → a ≠ p) ∧ ∀ ps, o = .tbl ps → a ≠ p) : HExt H (upd H p u) :=
  ⟨fun a v e => by rw [upd_ne ((n a _ e).1 v rfl)]; exact e, fun a ob w e => by rw [upd_ne ((n a _ e).2.1 ob w rfl)]; exact e, fun a q e => by rw [upd_ne ((n a _ e).2.2.1 q rfl)]; exact e,
   fun h p hp => let ⟨ps, h1, h2, h3⟩ := h p hp; ⟨ps, by rw [upd_ne ((n _ _ h1).2.2.2 ps rfl)]; exact h1, h2, fun pos cv hc => let ⟨c, e1, e2⟩ := h3 pos cv hc; ⟨c, e1, by rw [upd_ne ((n c _ e2).2.2.1 _ rfl)]; exact e2⟩⟩⟩
theorem HExt.new {p : Addr} {o : HO} (h : H p = none) : HExt H (upd H p o) :=
  HExt.off fun a ob e => have na := ne_of_none e h; ⟨fun _ _ => na, fun _ _ _ => na, fun _ _ => na, fun _ _ => na⟩
/-- a change at what is no tuple and not locked -/
theorem HExt.upd {p : Addr} {o u : HO} (h : H p = some o) (m : MutN (some o)) : HExt H (upd H p u) :=
  HExt.off fun a ob e => ⟨fun vs z w => by rw [w, h] at e; cases e; rw [z] at m; exact m, fun b v z w => by rw [w, h] at e; cases e; rw [z] at m; exact m,
    fun q z w => by rw [w, h] at e; cases e; rw [z] at m; exact m, fun ps z w => by rw [w, h] at e; cases e; rw [z] at m; exact m⟩
/-- a lambda is made: the tables grow -/
theorem HExt.lam (x : LamX.ExtN H H') (t : LamX.Tabs TabList.T H') : HExt H H' :=
  ⟨fun a v e => x a _ e (fun _ z => by cases z), fun a o u e => x a _ e (fun _ z => by cases z), fun a q e => x a _ e LamX.codeO_ne, fun _ => t⟩
theorem TupR.ext {a : Addr} {vs : List V} (h : TupR K H a vs) (x : HExt H H') : TupR K H' a vs := h.elim (fun h => .inl (x.tup a vs h)) .inr
theorem RolR.ext {a : Addr} {vs : List V} (h : RolR K H a vs) (x : HExt H H') : RolR K H' a vs := h.elim (fun ⟨o, h⟩ => .inl ⟨o, x.frz a o _ h⟩) .inr
mutual
theorem VR.ext (x : HExt H H') : ∀ {d : D} {v : V}, VR K H d v → VR K H' d v
  | _, _, .non => .non
  | _, _, .bl b => .bl b
  | _, _, .int i => .int i
  | _, _, .str z => .str z
  | _, _, .ref a => .ref a
  | _, _, .ty n => .ty n
  | _, _, .cls n => .cls n
  | _, _, .tup h r => .tup (h.ext x) (VRs.ext x r)
  | _, _, .rol h r => .rol (h.ext x) (VRs.ext x r)
theorem VRs.ext (x : HExt H H') : ∀ {ds : List D} {vs : List V}, VRs K H ds vs → VRs K H' ds vs
  | _, _, .nil => .nil
  | _, _, .cons h r => .cons (VR.ext x h) (VRs.ext x r)
end
theorem VRs.length : ∀ {ds : List D} {vs : List V}, VRs K H ds vs → ds.length = vs.length
  | _, _, .nil => rfl
  | _, _, .cons _ r => congrArg Nat.succ r.length
theorem VRs.get : ∀ {ds : List D} {vs : List V} {i : Nat} {d : D}, VRs K H ds vs → ds[i]? = some d → ∃ v, vs[i]? = some v ∧ VR K H d v
  | _, _, 0, _, .cons r _, e => by simp at e; subst e; exact ⟨_, rfl, r⟩
  | _, _, i + 1, _, .cons _ t, e => by
    obtain ⟨v, h1, h2⟩ := VRs.get (i := i) t (by simpa using e)
    exact ⟨v, by simpa using h1, h2⟩
  | _, _, _, _, .nil, e => by simp at e
theorem VRs.append : ∀ {ds es : List D} {vs ws : List V}, VRs K H ds vs → VRs K H es ws → VRs K H (ds ++ es) (vs ++ ws)
  | _, _, _, _, .nil, s => s
  | _, _, _, _, .cons r t, s => .cons r (VRs.append t s)
theorem VRs.take : ∀ {ds : List D} {vs : List V} (n : Nat), VRs K H ds vs → VRs K H (ds.take n) (vs.take n)
  | _, _, 0, _ => .nil
  | _, _, _ + 1, .nil => .nil
  | _, _, n + 1, .cons r t => .cons r (VRs.take n t)
theorem VRs.drop : ∀ {ds : List D} {vs : List V} (n : Nat), VRs K H ds vs → VRs K H (ds.drop n) (vs.drop n)
  | _, _, 0, r => r
  | _, _, _ + 1, .nil => .nil
  | _, _, n + 1, .cons _ t => VRs.drop n t
theorem VRs.set {d : D} {v : V} (r : VR K H d v) : ∀ {ds : List D} {vs : List V} (i : Nat), VRs K H ds vs → VRs K H (ds.set i d) (vs.set i v)
  | _, _, _, .nil => .nil
  | _, _, 0, .cons _ t => .cons r t
  | _, _, i + 1, .cons q t => .cons q (VRs.set r i t)
theorem VRs.reverse {ds : List D} {vs : List V} (h : VRs K H ds vs) : VRs K H ds.reverse vs.reverse := by
  induction h using VRs.rec (motive_1 := fun _ _ _ => True) with
  | nil => exact .nil
  | cons r t _ ih => simp only [List.reverse_cons]; exact VRs.append ih (.cons r .nil)
  | _ => trivial
theorem VRs.ints : ∀ {ns : List Int} , VRs K H (ns.map D.int) (ns.map V.int)
  | [] => .nil
  | n :: r => .cons (.int n) (VRs.ints (ns := r))

abbrev KVR (K : PySem.W.Frag) (H : Hp) {κ : Type} : List (κ × D) → List (κ × V) → Prop := Paired fun p q => p.1 = q.1 ∧ VR K H p.2 q.2
theorem KVR.ext {κ : Type} (x : HExt H H') {a : List (κ × D)} {b : List (κ × V)} (h : KVR K H a b) : KVR K H' a b := Paired.mapP h fun _ _ z => ⟨z.1, z.2.ext x⟩

/-- an exception that was caught, at a: its class, its dict -/
def excP (a : Addr) (c : Value) (d : Option Addr) : Heap → Prop := fun h => ∃ oe vs, h.get? a = some oe ∧ Zc c d oe ∧ oe.data = .fields vs

/-- the names of all fields of the program's instances -/
def FN : List Str := ["stock", "due", "more", "rest", "parts", "keeper", "stalls", "pockets", "market"]
/-- a class of the program: plain, and no name of a field is its own -/
structure ClsOk (K : PySem.W.Frag) (c : Str) : Prop where
  cl : Cls K (He.ga K c)
  no : ∀ f ∈ FN, NoAttr K (He.ga K c) f
def OR (K : PySem.W.Frag) (H : Hp) (a : Addr) : Ob → Prop
  | .lst ds => ∃ vs, H a = some (.lst vs) ∧ VRs K H ds vs
  | .dic kvs => ∃ ws, H a = some (.dK ws) ∧ KVR K H kvs ws
  | .ins c fs => ∃ dx ws, H a = some (.ins (He.ga K c) dx ws) ∧ KVR K H fs ws ∧ ClsOk K c
  | .exc c d => H a = some (.ext (excP a (.ref (He.ga K c)) d))
  | .xd fs => ∃ ws, H a = some (.xd ws) ∧ KVR K H fs ws
  | .lok kvs => ∃ o ws, H a = some (.frz o (.dK ws)) ∧ KVR K H kvs ws
theorem OR.ext {a : Addr} {o : Ob} (x : HExt H H') (k : H' a = H a) (h : OR K H a o) : OR K H' a o := by
  cases o with
  | lst ds => obtain ⟨vs, e, r⟩ := h; exact ⟨vs, k.trans e, r.ext x⟩
  | dic kvs => obtain ⟨vs, e, r⟩ := h; exact ⟨vs, k.trans e, KVR.ext x r⟩
  | ins C fs => obtain ⟨dx, vs, e, r, c⟩ := h; exact ⟨dx, vs, k.trans e, KVR.ext x r, c⟩
  | exc c d => exact k.trans h
  | xd fs => obtain ⟨vs, e, r⟩ := h; exact ⟨vs, k.trans e, KVR.ext x r⟩
  | lok kvs => obtain ⟨o, vs, e, r⟩ := h; exact ⟨o, vs, k.trans e, KVR.ext x r⟩
theorem OR.some {a : Addr} {o : Ob} (h : OR K H a o) : ∃ u, H a = some u := by
  cases o with
  | lst ds => obtain ⟨vs, e, r⟩ := h; exact ⟨_, e⟩
  | dic kvs => obtain ⟨vs, e, r⟩ := h; exact ⟨_, e⟩
  | ins C fs => obtain ⟨dx, vs, e, r⟩ := h; exact ⟨_, e⟩
  | exc c d => exact ⟨_, h⟩
  | xd fs => obtain ⟨vs, e, r⟩ := h; exact ⟨_, e⟩
  | lok kvs => obtain ⟨o, vs, e, r⟩ := h; exact ⟨_, e⟩
/-- the store is held -/
def SR (K : PySem.W.Frag) (S : Sto) (H : Hp) : Prop := ∀ a o, S a = some o → OR K H a o
theorem SR.fresh {S : Sto} {a : Addr} (h : SR K S H) (e : H a = none) : S a = none := by
  cases q : S a with
  | none => rfl
  | some o =>
    obtain ⟨u, z⟩ := (h a o q).some
    rw [e] at z; cases z
/-- an object laid at a, or changed there -/
theorem SR.put {S : Sto} {a : Addr} {o : Ob} {u : HO} (h : SR K S H) (x : HExt H (upd H a u)) (n : OR K (upd H a u) a o) : SR K (put S a o) (upd H a u) := fun b q e => by
  by_cases hb : b = a
  · subst hb; rw [put_same] at e; cases e; exact n
  · rw [put_ne hb] at e
    exact (h b q e).ext x (upd_ne hb)
/-- a new object that the store does not tell -/
theorem SR.more {S : Sto} {a : Addr} {u : HO} (h : SR K S H) (n : H a = none) : SR K S (upd H a u) := fun b q e => by
  have hb : b ≠ a := fun z => by rw [z, h.fresh n] at e; cases e
  exact (h b q e).ext (.new n) (upd_ne hb)
end

/-! ### environments -/
abbrev Env := List (Option D)
def OVR (K : PySem.W.Frag) (H : Hp) (o : Option D) (v : Option V) : Prop := ∀ d, o = some d → ∃ w, v = some w ∧ VR K H d w
abbrev ER (K : PySem.W.Frag) (H : Hp) : Env → L2.St → Prop := Paired (OVR K H)
section
variable {K : PySem.W.Frag} {H H' : Hp}
theorem ER.ext (x : HExt H H') {e : Env} {s : L2.St} (h : ER K H e s) : ER K H' e s := Paired.mapP h fun _ _ z d q => let ⟨w, a, b⟩ := z d q; ⟨w, a, b.ext x⟩
theorem ER.get : ∀ {e : Env} {s : L2.St} {i : Nat} {d : D}, ER K H e s → e[i]? = some (some d) → ∃ v, s[i]? = some (some v) ∧ VR K H d v
  | _, _, 0, _, .cons r _, q => by
    simp at q; subst q
    obtain ⟨w, a, b⟩ := r _ rfl
    exact ⟨w, by simp [a], b⟩
  | _, _, i + 1, _, .cons _ t, q => by
    obtain ⟨v, h1, h2⟩ := ER.get (i := i) t (by simpa using q)
    exact ⟨v, by simpa using h1, h2⟩
  | _, _, _, _, .nil, q => by simp at q
theorem ER.set {d : D} {v : V} (r : VR K H d v) : ∀ {e : Env} {s : L2.St} (i : Nat), ER K H e s → ER K H (e.set i (some d)) (s.set i (some v))
  | _, _, _, .nil => .nil
  | _, _, 0, .cons _ t => .cons (fun _ q => by cases q; exact ⟨v, rfl, r⟩) t
  | _, _, i + 1, .cons q t => .cons q (ER.set r i t)
theorem ER.unset : ∀ {e : Env} {s : L2.St} (i : Nat), ER K H e s → ER K H (e.set i none) (s.set i none)
  | _, _, _, .nil => .nil
  | _, _, 0, .cons _ t => .cons (fun _ q => by cases q) t
  | _, _, i + 1, .cons q t => .cons q (ER.unset i t)
theorem ER.none : ∀ (n : Nat), ER K H (List.replicate n none) (List.replicate n none)
  | 0 => .nil
  | n + 1 => .cons (fun _ q => by cases q) (ER.none n)
theorem ER.some : ∀ {ds : List D} {vs : List V}, VRs K H ds vs → ER K H (ds.map Option.some) (vs.map Option.some)
  | _, _, .nil => .nil
  | _, _, .cons r t => .cons (fun _ q => by cases q; exact ⟨_, rfl, r⟩) (ER.some t)
theorem ER.app : ∀ {e f : Env} {s t : L2.St}, ER K H e s → ER K H f t → ER K H (e ++ f) (s ++ t)
  | _, _, _, _, .nil, h => h
  | _, _, _, _, .cons r q, h => .cons r (ER.app q h)
end

/-! ### the judgements, lifted -/
abbrev NQ := D → Sto → Prop
abbrev NE := Env → Sto → NQ → Prop
abbrev NT := Env → Sto → (Bool → Sto → Prop) → Prop
abbrev NA := Env → Sto → (List D → Sto → Prop) → Prop
structure NEnds where
  nx : Env → Sto → Prop
  rt : NQ
  bk : Env → Sto → Prop := fun _ _ => False
  ct : Env → Sto → Prop := fun _ _ => False
abbrev NS := NEnds → Env → Sto → Prop
/-- what is wished of an exception: its class, its dict -/
abbrev NW := Str → Option Addr → Env → Sto → Prop

section
variable (K : PySem.W.Frag) (H0 : Hp)
/-- nice state at a heap -/
structure At (H : Hp) (σ : L2.St) (e : Env) (S : Sto) : Prop where
  x : HExt H0 H
  e : ER K H e σ
  s : SR K S H
def lE (m : NE) : TE := fun σ H Q => ∃ e S Q', At K H0 H σ e S ∧ m e S Q' ∧ ∀ d S' v H', HExt H H' → SR K S' H' → VR K H' d v → Q' d S' → Q v H'
def lT (m : NT) : TT := fun σ H Q => ∃ e S Q', At K H0 H σ e S ∧ m e S Q' ∧ ∀ b S' H', HExt H H' → SR K S' H' → Q' b S' → Q b H'
def lA (m : NA) : TA := fun σ H Q => ∃ e S Q', At K H0 H σ e S ∧ m e S Q' ∧ ∀ ds S' vs H', HExt H H' → SR K S' H' → VRs K H' ds vs → Q' ds S' → Q vs H'
structure EndsR (H : Hp) (D' : NEnds) (D : Ends) : Prop where
  nx : ∀ e S σ H', HExt H H' → At K H0 H' σ e S → D'.nx e S → D.nx σ H'
  rt : ∀ d S v H', HExt H H' → SR K S H' → VR K H' d v → D'.rt d S → D.rt v H'
  bk : ∀ e S σ H', HExt H H' → At K H0 H' σ e S → D'.bk e S → D.bk σ H'
  ct : ∀ e S σ H', HExt H H' → At K H0 H' σ e S → D'.ct e S → D.ct σ H'
def lS (m : NS) : TS := fun D σ H => ∃ e S D', At K H0 H σ e S ∧ m D' e S ∧ EndsR K H0 H D' D
def lW (w : NW) : WX := fun u d σ H => ∃ c e S, u = .ref (He.ga K c) ∧ At K H0 H σ e S ∧ w c d e S
end
section
variable {K : PySem.W.Frag} {H0 H H' : Hp} {σ : L2.St} {e : Env} {S : Sto}
theorem EndsR.ext {D' : NEnds} {D : Ends} (k : EndsR K H0 H D' D) (x : HExt H H') : EndsR K H0 H' D' D :=
  ⟨fun e S σ H2 y => k.nx e S σ H2 (x.trans y), fun d S v H2 y => k.rt d S v H2 (x.trans y), fun e S σ H2 y => k.bk e S σ H2 (x.trans y), fun e S σ H2 y => k.ct e S σ H2 (x.trans y)⟩
theorem At.next (a : At K H0 H σ e S) {S' : Sto} (x : HExt H H') (s : SR K S' H') : At K H0 H' σ e S' := ⟨a.x.trans x, a.e.ext x, s⟩
end
theorem _root_.L2.PE.imq {X : Cx} {e : Expr} {t t' : TE} (h : PE X e t) (i : ∀ σ H Q, t' σ H Q → t σ H Q) : PE X e t' := ⟨fun pins s σ H Q I q => h.run pins s σ H Q I (i _ _ _ q)⟩
theorem _root_.L2.PT.imq {X : Cx} {e : Expr} {t t' : TT} (h : PT X e t) (i : ∀ σ H Q, t' σ H Q → t σ H Q) : PT X e t' := ⟨fun pins s σ H Q I q => h.run pins s σ H Q I (i _ _ _ q)⟩
theorem _root_.L2.PW.imq {X : Cx} {e : Expr} {t t' : TT} (h : PW X e t) (i : ∀ σ H Q, t' σ H Q → t σ H Q) : PW X e t' := ⟨fun w pins s σ H Q I q => h.run w pins s σ H Q I (i _ _ _ q)⟩
theorem _root_.L2.PA.imq {X : Cx} {e : List Expr} {t t' : TA} (h : PA X e t) (i : ∀ σ H Q, t' σ H Q → t σ H Q) : PA X e t' := ⟨fun p pins s σ H Q I q => h.run p pins s σ H Q I (i _ _ _ q)⟩
theorem _root_.L2.PS.imq {X : Cx} {e : Stmt} {t t' : TS} (h : PS X e t) (i : ∀ D σ H, t' D σ H → t D σ H) : PS X e t' := ⟨fun pins s σ H D I q => h.run pins s σ H D I (i _ _ _ q)⟩
theorem _root_.L2.PSs.imq {X : Cx} {e : List Stmt} {t t' : TS} (h : PSs X e t) (i : ∀ D σ H, t' D σ H → t D σ H) : PSs X e t' := ⟨fun pins s σ H D I q => h.run pins s σ H D I (i _ _ _ q)⟩
abbrev JE (X : Cx) (H0 : Hp) (e : Expr) (m : NE) : Prop := PE X e (lE X.K H0 m)
abbrev JT (X : Cx) (H0 : Hp) (e : Expr) (m : NT) : Prop := PT X e (lT X.K H0 m)
abbrev JW (X : Cx) (H0 : Hp) (e : Expr) (m : NT) : Prop := PW X e (lT X.K H0 m)
abbrev JA (X : Cx) (H0 : Hp) (es : List Expr) (m : NA) : Prop := PA X es (lA X.K H0 m)
abbrev JS (X : Cx) (H0 : Hp) (st : Stmt) (m : NS) : Prop := PS X st (lS X.K H0 m)
abbrev JSs (X : Cx) (H0 : Hp) (st : List Stmt) (m : NS) : Prop := PSs X st (lS X.K H0 m)
end N

set_option Elab.async false
set_option linter.all false
set_option maxRecDepth 100000
set_option maxHeartbeats 4000000
namespace N
variable [TabList]
open PySem PySem.Spec PyProof.Rows L2

/-! ### nice operators, by values -/
abbrev N2 := D → D → Sto → NQ → Prop
abbrev NL := List D → Sto → NQ → Prop
section
variable (K : PySem.W.Frag)
/-- a reading of the layer follows from a nice one -/
def Op2 (r : R2) (n : N2) : Prop := ∀ x y S Q vx vy H Q', SR K S H → VR K H x vx → VR K H y vy → n x y S Q → (∀ d S' v H', HExt H H' → SR K S' H' → VR K H' d v → Q d S' → Q' v H') → r vx vy H Q'
def OpL (r : List V → Hp → VK → Prop) (n : NL) : Prop := ∀ xs S Q vs H Q', SR K S H → VRs K H xs vs → n xs S Q → (∀ d S' v H', HExt H H' → SR K S' H' → VR K H' d v → Q d S' → Q' v H') → r vs H Q'
end
section
variable {X : Cx} {H0 : Hp} {a b c : Expr} {ma mb mc : NE} {pos : Pos}
def OpN (X : Cx) (f : Value → Value → Sem Value) (n : N2) : Prop := ∃ r, OpR X f r ∧ Op2 X.K r n
def CallN (X : Cx) (f : Value) (n : NL) : Prop := ∃ r, CallR X f r ∧ OpL X.K r n
def IxN (X : Cx) (n : N2) : Prop := ∃ r, IxR X r ∧ Op2 X.K r n
def mOp (n : N2) (ma mb : NE) : NE := fun e S Q => ma e S fun x S1 => mb e S1 fun y S2 => n x y S2 Q
theorem bin_ok {r : R2} {n : N2} (hn : Op2 X.K r n) {σ : L2.St} {H : Hp} {Q : VK} (h : lE X.K H0 (mOp n ma mb) σ H Q) : tOp r (lE X.K H0 ma) (lE X.K H0 mb) σ H Q := by
  obtain ⟨e, S, Q', A, m, k⟩ := h
  refine ⟨e, S, _, A, m, fun x S1 vx H1 x1 s1 rx m1 => ?_⟩
  refine ⟨e, S1, _, A.next x1 s1, m1, fun y S2 vy H2 x2 s2 ry m2 => ?_⟩
  exact hn x y S2 Q' vx vy H2 Q s2 (rx.ext x2) ry m2 fun d S' v H' x3 s3 rd q => k d S' v H' ((x1.trans x2).trans x3) s3 rd q
theorem je_op {op : Operator} {n : N2} (ho : OpN X (binaryOp op) n) (ha : JE X H0 a ma) (hb : JE X H0 b mb) : JE X H0 (.BinOp a op b pos) (mOp n ma mb) := by
  obtain ⟨r, h1, h2⟩ := ho
  exact (pe_op h1 ha hb).imq fun _ _ _ h => bin_ok h2 h
theorem je_cmp {op : CmpOp} {n : N2} (ho : OpN X (compareOp op) n) (ha : JE X H0 a ma) (hb : JE X H0 b mb) (hm : behindInMarks op b = false) : JE X H0 (.Compare a [op] [b] pos) (mOp n ma mb) := by
  obtain ⟨r, h1, h2⟩ := ho
  exact (pe_cmpR h1 ha hb hm).imq fun _ _ _ h => bin_ok h2 h
/-- a value as a test: a bool -/
def mTst (m : NE) : NT := fun e S Q => m e S fun d S' => match d with
  | .bl k => Q k S'
  | _ => False
theorem tst_ok {m : NE} {σ : L2.St} {H : Hp} {Q : Bool → Hp → Prop} (h : lT X.K H0 (mTst m) σ H Q) : lE X.K H0 m σ H fun x H' => ∃ k, x = .bl k ∧ Q k H' := by
  obtain ⟨e, S, Q', A, m1, k⟩ := h
  refine ⟨e, S, _, A, m1, fun d S' v H' x s r q => ?_⟩
  cases d with
  | bl b => cases r; exact ⟨b, rfl, k b S' H' x s q⟩
  | _ => exact q.elim
theorem jt_cmp {op : CmpOp} {n : N2} (ho : OpN X (compareOp op) n) (ha : JE X H0 a ma) (hb : JE X H0 b mb) (hm : behindInMarks op b = false) : JT X H0 (.Compare a [op] [b] pos) (mTst (mOp n ma mb)) := by
  obtain ⟨r, h1, h2⟩ := ho
  refine (pt_cmpR h1 ha hb hm).imq fun σ H Q h => ?_
  obtain ⟨e, S, Q', A, m, k⟩ := h
  exact bin_ok h2 ⟨e, S, _, A, m, fun d S' v H' x s r q => by
    cases d with
    | bl b => cases r; exact ⟨b, rfl, k b S' H' x s q⟩
    | _ => exact q.elim⟩
theorem jt_val {m : NE} (h : JE X H0 a m) (he : ∀ whole, isTrue a X.env whole = (do let v ← whole; standAt a.pos; holding [v] (truthy v)) := by intro _; rfl) : JT X H0 a (mTst m) :=
  (pt_val h he).imq fun _ _ _ q => tst_ok q

/-! ### names, constants -/
def nth : Env → Nat → Option D
  | [], _ => none
  | o :: _, 0 => o
  | _ :: r, n + 1 => nth r n
theorem nth_get : ∀ {e : Env} {i : Nat} {d : D}, nth e i = some d → e[i]? = some (some d)
  | [], _, _, h => by cases h
  | o :: _, 0, d, h => by
    have h' : o = some d := h
    rw [h']; rfl
  | _ :: r, i + 1, d, h => by
    have := nth_get (e := r) (i := i) h
    simpa using this
def mVar (i : Nat) : NE := fun e S Q => match nth e i with
  | some d => Q d S
  | none => False
theorem je_var {i : Nat} {x : Str} (hN : X.N[i]? = some x := by rfl) (hv : Vis X.env.scope x := by first | exact Or.inl rfl | exact Or.inr (Or.inl rfl) | exact Or.inr (Or.inr rfl)) (hd : (x == ("__debug__" : Str)) = false := by decide +kernel) (hcd : (x == ("__classdict__" : Str)) = false := by decide +kernel) : JE X H0 (.Name x pos) (mVar i) := by
  refine (pe_var (pos := pos) hN hv hd hcd).imq fun σ H Q h => ?_
  obtain ⟨e, S, Q', A, m, k⟩ := h
  unfold mVar at m
  split at m
  · rename_i d hd
    obtain ⟨v, h1, h2⟩ := A.e.get (nth_get hd)
    exact ⟨v, h1, k d S v H (.refl H) A.s h2 m⟩
  · exact m.elim
def mC (d : D) : NE := fun _ S Q => Q d S
theorem c_ok {d : D} {v : V} (r : ∀ H, VR X.K H d v) {σ : L2.St} {H : Hp} {Q : VK} (h : lE X.K H0 (mC d) σ H Q) : Q v H := by
  obtain ⟨e, S, Q', A, m, k⟩ := h
  exact k d S v H (.refl H) A.s (r H) m
theorem je_int {i : Int} {j} : JE X H0 (.Constant (.int i) j pos) (mC (.int i)) := pe_int.imq fun _ _ _ h => c_ok (fun _ => .int i) h
theorem je_bl {i : Bool} {j} : JE X H0 (.Constant (.bool i) j pos) (mC (.bl i)) := pe_bl.imq fun _ _ _ h => c_ok (fun _ => .bl i) h
theorem je_non {j} : JE X H0 (.Constant .none j pos) (mC .non) := pe_non.imq fun _ _ _ h => c_ok (fun _ => .non) h
theorem je_str {x : Str} {j} : JE X H0 (.Constant (.str x) j pos) (mC (.str x)) := pe_str.imq fun _ _ _ h => c_ok (fun _ => .str x) h
theorem je_glob {x : Str} {v : V} {u : Value} {d : D} (hm : X.mg x = some u) (r : RelV v u) (q : ∀ H, VR X.K H d v) (hg : Gl X x := by rfl) (hd : (x == ("__debug__" : Str)) = false := by decide +kernel) : JE X H0 (.Name x pos) (mC d) :=
  (pe_glob hg hm r hd).imq fun _ _ _ h => c_ok q h
theorem je_bltn {x : Str} {v : V} {u : Value} {d : D} (hm : X.mg x = none) (hv : bootBuiltins x = some u) (r : RelV v u) (q : ∀ H, VR X.K H d v) (hg : Gl X x := by rfl) (hn : x ≠ "__name__" := by decide +kernel) (hd : (x == ("__debug__" : Str)) = false := by decide +kernel) : JE X H0 (.Name x pos) (mC d) :=
  (pe_bltn hg hm hv r hn hd).imq fun _ _ _ h => c_ok q h

/-! ### and, or, not, if -/
variable {ta tb tc : NT} {rest : List Expr}
def mAnd (t u : NT) : NT := fun e S Q => t e S fun c S1 => match c with
  | true => u e S1 Q
  | false => Q false S1
def mOr (t u : NT) : NT := fun e S Q => t e S fun c S1 => match c with
  | true => Q true S1
  | false => u e S1 Q
def mNot (t : NT) : NT := fun e S Q => t e S fun c S1 => Q (!c) S1
theorem jw_and1 (ha : JT X H0 a ta) : JW X H0 (.BoolOp .And [a] pos) ta := pw_and1 ha
theorem jw_or1 (ha : JT X H0 a ta) : JW X H0 (.BoolOp .Or [a] pos) ta := pw_or1 ha
theorem jw_and (ha : JT X H0 a ta) (hb : JW X H0 (.BoolOp .And (b :: rest) pos) tb) : JW X H0 (.BoolOp .And (a :: b :: rest) pos) (mAnd ta tb) := by
  refine (pw_and ha hb).imq fun σ H Q h => ?_
  obtain ⟨e, S, Q', A, m, k⟩ := h
  refine ⟨e, S, _, A, m, fun c S1 H1 x1 s1 q => ?_⟩
  cases c with
  | true => exact iteT ⟨e, S1, Q', A.next x1 s1, q, fun b S' H' x2 s2 => k b S' H' (x1.trans x2) s2⟩
  | false => exact iteF (k false S1 H1 x1 s1 q)
theorem jw_or (ha : JT X H0 a ta) (hb : JW X H0 (.BoolOp .Or (b :: rest) pos) tb) : JW X H0 (.BoolOp .Or (a :: b :: rest) pos) (mOr ta tb) := by
  refine (pw_or ha hb).imq fun σ H Q h => ?_
  obtain ⟨e, S, Q', A, m, k⟩ := h
  refine ⟨e, S, _, A, m, fun c S1 H1 x1 s1 q => ?_⟩
  cases c with
  | true => exact iteT (k true S1 H1 x1 s1 q)
  | false => exact iteF ⟨e, S1, Q', A.next x1 s1, q, fun b S' H' x2 s2 => k b S' H' (x1.trans x2) s2⟩
theorem jt_w (h : JW X H0 a ta) : JT X H0 a ta := h.pt
theorem jt_not (ha : JT X H0 a ta) : JT X H0 (.UnaryOp .Not a pos) (mNot ta) := by
  refine (pt_not ha).imq fun σ H Q h => ?_
  obtain ⟨e, S, Q', A, m, k⟩ := h
  exact ⟨e, S, _, A, m, fun c S1 H1 x1 s1 q => k _ S1 H1 x1 s1 q⟩
/-- as values, all but the last of them bools -/
def mAndV (m n : NE) : NE := fun e S Q => m e S fun d S1 => match d with
  | .bl true => n e S1 Q
  | .bl false => Q (.bl false) S1
  | _ => False
def mOrV (m n : NE) : NE := fun e S Q => m e S fun d S1 => match d with
  | .bl true => Q (.bl true) S1
  | .bl false => n e S1 Q
  | _ => False
def mNotV (m : NE) : NE := fun e S Q => m e S fun d S1 => match d with
  | .bl k => Q (.bl (!k)) S1
  | _ => False
theorem je_one {op} (h : JE X H0 a ma) : JE X H0 (.BoolOp op [a] pos) ma := pe_one h
theorem je_and (ha : JE X H0 a ma) (hb : JE X H0 (.BoolOp .And (b :: rest) pos) mb) : JE X H0 (.BoolOp .And (a :: b :: rest) pos) (mAndV ma mb) := by
  refine (pe_and ha hb).imq fun σ H Q h => ?_
  obtain ⟨e, S, Q', A, m, k⟩ := h
  refine ⟨e, S, _, A, m, fun d S1 v H1 x1 s1 r q => ?_⟩
  cases d with
  | bl c =>
    cases r
    cases c with
    | true => exact ⟨true, rfl, iteT ⟨e, S1, Q', A.next x1 s1, q, fun d S' v H' x2 s2 => k d S' v H' (x1.trans x2) s2⟩⟩
    | false => exact ⟨false, rfl, iteF (k _ S1 _ H1 x1 s1 (.bl false) q)⟩
  | _ => exact q.elim
theorem je_or (ha : JE X H0 a ma) (hb : JE X H0 (.BoolOp .Or (b :: rest) pos) mb) : JE X H0 (.BoolOp .Or (a :: b :: rest) pos) (mOrV ma mb) := by
  refine (pe_or ha hb).imq fun σ H Q h => ?_
  obtain ⟨e, S, Q', A, m, k⟩ := h
  refine ⟨e, S, _, A, m, fun d S1 v H1 x1 s1 r q => ?_⟩
  cases d with
  | bl c =>
    cases r
    cases c with
    | true => exact ⟨true, rfl, iteT (k _ S1 _ H1 x1 s1 (.bl true) q)⟩
    | false => exact ⟨false, rfl, iteF ⟨e, S1, Q', A.next x1 s1, q, fun d S' v H' x2 s2 => k d S' v H' (x1.trans x2) s2⟩⟩
  | _ => exact q.elim
theorem je_not (ha : JE X H0 a ma) : JE X H0 (.UnaryOp .Not a pos) (mNotV ma) := by
  refine (pe_not ha).imq fun σ H Q h => ?_
  obtain ⟨e, S, Q', A, m, k⟩ := h
  refine ⟨e, S, _, A, m, fun d S1 v H1 x1 s1 r q => ?_⟩
  cases d with
  | bl c => cases r; exact ⟨c, rfl, k _ S1 _ H1 x1 s1 (.bl _) q⟩
  | _ => exact q.elim
def mIf (t : NT) (m n : NE) : NE := fun e S Q => t e S fun c S1 => match c with
  | true => m e S1 Q
  | false => n e S1 Q
theorem je_if (hc : JT X H0 c tc) (ha : JE X H0 a ma) (hb : JE X H0 b mb) : JE X H0 (.IfExp c a b pos) (mIf tc ma mb) := by
  refine (pe_ifExp hc ha hb).imq fun σ H Q h => ?_
  obtain ⟨e, S, Q', A, m, k⟩ := h
  refine ⟨e, S, _, A, m, fun c S1 H1 x1 s1 q => ?_⟩
  cases c with
  | true => exact iteT ⟨e, S1, Q', A.next x1 s1, q, fun d S' v H' x2 s2 => k d S' v H' (x1.trans x2) s2⟩
  | false => exact iteF ⟨e, S1, Q', A.next x1 s1, q, fun d S' v H' x2 s2 => k d S' v H' (x1.trans x2) s2⟩

/-! ### chains -/
def mChain (n n' : N2) (ma mb mc : NE) : NE := fun e S Q => ma e S fun x S1 => mb e S1 fun y S2 => n x y S2 fun z S3 => match z with
  | .bl true => mc e S3 fun u S4 => n' y u S4 Q
  | .bl false => Q (.bl false) S3
  | _ => False
theorem je_chain {op op' : CmpOp} {n n' : N2} (ho : OpN X (compareOp op) n) (ho' : OpN X (compareOp op') n') (ha : JE X H0 a ma) (hb : JE X H0 b mb) (hc : JE X H0 c mc)
    (h1 : lastMarks [op, op'] [b, c] = false := by with_unfolding_all rfl) : JE X H0 (.Compare a [op, op'] [b, c] pos) (mChain n n' ma mb mc) := by
  obtain ⟨r, h3, h4⟩ := ho
  obtain ⟨r', h5, h6⟩ := ho'
  refine L2.PE.imq (pe_chain h3 h5 ha hb hc h1) fun σ H Q h => ?_
  obtain ⟨e, S, Q', A, m, k⟩ := h
  refine ⟨e, S, _, A, m, fun x S1 vx H1 x1 s1 rx m1 => ?_⟩
  refine ⟨e, S1, _, A.next x1 s1, m1, fun y S2 vy H2 x2 s2 ry m2 => ?_⟩
  refine h4 x y S2 _ vx vy H2 _ s2 (rx.ext x2) ry m2 fun z S3 vz H3 x3 s3 rz m3 => ?_
  cases z with
  | bl t =>
    cases rz
    have x13 := (x1.trans x2).trans x3
    cases t with
    | true =>
      refine ⟨true, rfl, iteT ?_⟩
      refine ⟨e, S3, _, A.next x13 s3, m3, fun u S4 vu H4 x4 s4 ru m4 => ?_⟩
      exact h6 y u S4 _ vy vu H4 _ s4 ((ry.ext x3).ext x4) ru m4 fun d S' v H' x5 s5 rd q => k d S' v H' ((x13.trans x4).trans x5) s5 rd q
    | false => exact ⟨false, rfl, iteF (k _ S3 _ H3 x13 s3 (.bl false) m3)⟩
  | _ => exact m3.elim

/-! ### arguments, displays -/
variable {es : List Expr} {mr : NA}
def mNil : NA := fun _ S Q => Q [] S
def mCons (m : NE) (r : NA) : NA := fun e S Q => m e S fun x S1 => r e S1 fun xs S2 => Q (x :: xs) S2
theorem ja_nil : JA X H0 [] mNil := by
  refine pa_nil.imq fun σ H Q h => ?_
  obtain ⟨e, S, Q', A, m, k⟩ := h
  exact k [] S [] H (.refl H) A.s .nil m
theorem ja_cons (ha : JE X H0 a ma) (hr : JA X H0 es mr) (hs : starEach (a :: es) X.env = (false, eval a X.env) :: starEach es X.env := by rfl) : JA X H0 (a :: es) (mCons ma mr) := by
  refine (pa_cons ha hr hs).imq fun σ H Q h => ?_
  obtain ⟨e, S, Q', A, m, k⟩ := h
  refine ⟨e, S, _, A, m, fun x S1 vx H1 x1 s1 rx m1 => ?_⟩
  exact ⟨e, S1, _, A.next x1 s1, m1, fun ys S2 vs H2 x2 s2 rs m2 => k _ S2 _ H2 (x1.trans x2) s2 (.cons (rx.ext x2) rs) m2⟩
def mTup (r : NA) : NE := fun e S Q => r e S fun ds S1 => ds.length ≤ sizeLine ∧ Q (.tup ds) S1
def mLst (r : NA) : NE := fun e S Q => r e S fun ds S1 => ds.length ≤ sizeLine ∧ ∀ p, S1 p = none → Q (.ref p) (put S1 p (.lst ds))
theorem je_tup {k} (h : JA X H0 es mr) : JE X H0 (.Tuple es k pos) (mTup mr) := by
  refine (pe_tup h).imq fun σ H Q h => ?_
  obtain ⟨e, S, Q', A, m, k⟩ := h
  refine ⟨e, S, _, A, m, fun ds S1 vs H1 x1 s1 rs q => ?_⟩
  refine ⟨by rw [← rs.length]; exact q.1, fun p np => ?_⟩
  exact k _ S1 _ _ (x1.trans (.new np)) (s1.more np) (.tup (.inl upd_same) (rs.ext (.new np))) q.2
theorem lst_ok {S1 : Sto} {H1 : Hp} {p : Addr} {ds : List D} {vs : List V} (s1 : SR X.K S1 H1) (np : H1 p = none) (rs : VRs X.K H1 ds vs) : SR X.K (put S1 p (.lst ds)) (upd H1 p (.lst vs)) :=
  s1.put (.new np) ⟨vs, upd_same, rs.ext (.new np)⟩
theorem je_lst (h : JA X H0 es mr) : JE X H0 (.List es pos) (mLst mr) := by
  refine (pe_lst h).imq fun σ H Q h => ?_
  obtain ⟨e, S, Q', A, m, k⟩ := h
  refine ⟨e, S, _, A, m, fun ds S1 vs H1 x1 s1 rs q => ?_⟩
  refine ⟨by rw [← rs.length]; exact q.1, fun p np => ?_⟩
  exact k _ _ _ _ (x1.trans (.new np)) (lst_ok s1 np rs) (.ref p) (q.2 p (s1.fresh np))
/-- a dict with written keys -/
def mDic0 : NE := fun _ S Q => ∀ p, S p = none → Q (.ref p) (put S p (.dic []))
theorem je_dic0 : JE X H0 (.Dict [] [] pos) mDic0 := by
  refine pe_dnewK.imq fun σ H Q h => ?_
  obtain ⟨e, S, Q', A, m, k⟩ := h
  exact fun p np => k _ _ _ _ (.new np) (A.s.put (o := .dic []) (.new np) ⟨[], upd_same, .nil⟩) (.ref p) (m p (A.s.fresh np))
end
end N

set_option Elab.async false
set_option linter.all false
set_option maxRecDepth 100000
set_option maxHeartbeats 4000000
namespace N
variable [TabList]
open PySem PySem.Spec PyProof.Rows L2

/-! ### reading a nice value -/
section
variable {K : PySem.W.Frag} {H : Hp}
theorem VRs.cons_inv {d : D} {ds : List D} {vs : List V} (h : VRs K H (d :: ds) vs) : ∃ v ws, vs = v :: ws ∧ VR K H d v ∧ VRs K H ds ws := by
  cases h with
  | cons a b => exact ⟨_, _, rfl, a, b⟩
theorem VRs.nil_inv {vs : List V} (h : VRs K H [] vs) : vs = [] := by cases h; rfl
end
def isBit (n : Nat) (i : Int) : Prop := i.natAbs < 2 ^ n
/-- products that the model makes -/
def MulOk (i j : Int) : Prop := i.natAbs < 2 ^ 64 ∨ j.natAbs < 2 ^ 64 ∨ (i.natAbs < 2 ^ 4000 ∧ j.natAbs < 2 ^ 4000)
def rMulN : R2 := fun x y H Q => (rI CMul (fun i j => .int (i * j)) x y H Q) ∨ (rI CMulW (fun i j => .int (i * j)) x y H Q)
section
variable {X : Cx}
theorem op_mulN : OpR X (binaryOp .Mult) rMulN := op_mul.or op_mulW
theorem MulOk.imp {i j : Int} {Q : VK} {H : Hp} (h : MulOk i j) (q : Q (.int (i * j)) H) : rMulN (.int i) (.int j) H Q := by
  rcases h with h | h | ⟨h1, h2⟩
  · exact .inl ⟨i, j, rfl, rfl, .inl (by have : ((2 ^ 64 : Nat) : Int) = (2 : Int) ^ 64 := by norm_cast
                                         omega), q⟩
  · exact .inl ⟨i, j, rfl, rfl, .inr (by have : ((2 ^ 64 : Nat) : Int) = (2 : Int) ^ 64 := by norm_cast
                                         omega), q⟩
  · exact .inr ⟨i, j, rfl, rfl, wide_mul h1 h2 (by decide) (by decide) (by decide), q⟩

/-! ### arithmetic -/
def nAdd : N2 := fun x y S Q => match x, y with
  | .int i, .int j => Q (.int (i + j)) S
  | .str a, .str b => a.length + b.length ≤ sizeLine ∧ Q (.str (a ++ b)) S
  | .tup a, .tup b => a.length + b.length ≤ sizeLine ∧ Q (.tup (a ++ b)) S
  | .ref a, .ref b => (match S a, S b with
    | some (.lst xs), some (.lst ys) => xs.length + ys.length ≤ sizeLine ∧ ∀ p, S p = none → Q (.ref p) (put S p (.lst (xs ++ ys)))
    | _, _ => False)
  | _, _ => False
theorem SR.lst {K : PySem.W.Frag} {S : Sto} {H : Hp} {a : Addr} {ds : List D} (h : SR K S H) (e : S a = some (.lst ds)) : ∃ vs, H a = some (.lst vs) ∧ VRs K H ds vs := h a _ e
theorem SR.ins {K : PySem.W.Frag} {S : Sto} {H : Hp} {a : Addr} {c : Str} {fs : List (Str × D)} (h : SR K S H) (e : S a = some (.ins c fs)) : ∃ dx ws, H a = some (.ins (He.ga K c) dx ws) ∧ KVR K H fs ws ∧ ClsOk K c := h a _ e
theorem SR.dic {K : PySem.W.Frag} {S : Sto} {H : Hp} {a : Addr} {fs : List (Key × D)} (h : SR K S H) (e : S a = some (.dic fs)) : ∃ ws, H a = some (.dK ws) ∧ KVR K H fs ws := h a _ e
theorem opN_add : OpN X (binaryOp .Add) nAdd := by
  refine ⟨_, op_add.or (op_add_str.or (op_catA.or op_cat)), fun x y S Q vx vy H Q' s rx ry n k => ?_⟩
  unfold nAdd at n
  split at n
  · rename_i i j
    cases rx; cases ry
    exact .inl ⟨i, j, rfl, rfl, k _ _ _ _ (.refl H) s (.int _) n⟩
  · rename_i a b
    cases rx; cases ry
    exact .inr (.inl ⟨a, b, rfl, rfl, n.1, k _ _ _ _ (.refl H) s (.str _) n.2⟩)
  · rename_i a b
    cases rx with
    | tup t1 r1 =>
      rename_i p1 vs
      cases ry with
      | tup t2 r2 =>
        rename_i p2 ws
        refine .inr (.inr (.inl ⟨p1, p2, vs, ws, rfl, rfl, t1.sq, t2.sq, by rw [← r1.length, ← r2.length]; exact n.1, fun e => ?_, fun _ e => ?_, fun _ _ p np => ?_⟩))
        · subst e
          have : a = [] := by cases r1; rfl
          subst this
          exact k _ _ _ _ (.refl H) s (.tup t2 r2) n.2
        · subst e
          have : b = [] := by cases r2; rfl
          subst this
          refine k _ _ _ _ (.refl H) s ?_ n.2
          rw [List.append_nil]
          exact .tup t1 r1
        · exact k _ _ _ _ (.new np) (s.more np) (.tup (.inl upd_same) ((r1.append r2).ext (.new np))) n.2
  · rename_i a b
    cases rx; cases ry
    split at n
    · rename_i xs ys e1 e2
      obtain ⟨vs, h1, r1⟩ := s.lst e1
      obtain ⟨ws, h2, r2⟩ := s.lst e2
      refine .inr (.inr (.inr ⟨a, b, vs, ws, rfl, rfl, h1, h2, by rw [← r1.length, ← r2.length]; exact n.1, fun p np => ?_⟩))
      exact k _ _ _ _ (.new np) (lst_ok s np (r1.append r2)) (.ref p) (n.2 p (s.fresh np))
    · exact n.elim
  · exact n.elim
/-- an operator on two ints -/
def nInt (C : Int → Int → Prop) (g : Int → Int → D) : N2 := fun x y S Q => match x, y with
  | .int i, .int j => C i j ∧ Q (g i j) S
  | _, _ => False
theorem opN_int {f : Value → Value → Sem Value} {C C' : Int → Int → Prop} {g : Int → Int → V} {g' : Int → Int → D} (ho : OpR X f (rI C g)) (hc : ∀ i j, C' i j → C i j) (hg : ∀ H i j, VR X.K H (g' i j) (g i j)) : OpN X f (nInt C' g') := by
  refine ⟨_, ho, fun x y S Q vx vy H Q' s rx ry n k => ?_⟩
  unfold nInt at n
  split at n
  · rename_i i j
    cases rx; cases ry
    exact ⟨i, j, rfl, rfl, hc i j n.1, k _ _ _ _ (.refl H) s (hg H i j) n.2⟩
  · exact n.elim
def nInt0 (g : Int → Int → D) : N2 := fun x y S Q => match x, y with
  | .int i, .int j => Q (g i j) S
  | _, _ => False
theorem opN_int0 {f : Value → Value → Sem Value} {g : Int → Int → V} {g' : Int → Int → D} (ho : OpR X f (rI0 g)) (hg : ∀ H i j, VR X.K H (g' i j) (g i j)) : OpN X f (nInt0 g') := by
  refine ⟨_, ho, fun x y S Q vx vy H Q' s rx ry n k => ?_⟩
  unfold nInt0 at n
  split at n
  · rename_i i j
    cases rx; cases ry
    exact ⟨i, j, rfl, rfl, k _ _ _ _ (.refl H) s (hg H i j) n⟩
  · exact n.elim
abbrev nSub : N2 := nInt0 fun i j => .int (i - j)
theorem opN_sub : OpN X (binaryOp .Sub) nSub := opN_int0 op_sub fun _ _ _ => .int _
abbrev nMul : N2 := nInt MulOk fun i j => .int (i * j)
theorem opN_mul : OpN X (binaryOp .Mult) nMul := by
  refine ⟨_, op_mulN, fun x y S Q vx vy H Q' s rx ry n k => ?_⟩
  unfold nMul nInt at n
  split at n
  · rename_i i j
    cases rx; cases ry
    exact n.1.imp (k _ _ _ _ (.refl H) s (.int _) n.2)
  · exact n.elim
def DivOk (_ j : Int) : Prop := 0 < j ∧ j.natAbs < 2 ^ 4000
abbrev nDiv : N2 := nInt DivOk fun i j => .int (i / j)
theorem opN_div : OpN X (binaryOp .FloorDiv) nDiv := opN_int op_fdivW (fun i j h => wide_div (i := i) h.1 h.2 (by decide) (by decide)) fun _ _ _ => .int _
abbrev nMod : N2 := nInt (fun _ j => 0 < j) fun i j => .int (i % j)
theorem opN_mod : OpN X (binaryOp .Mod) nMod := opN_int op_mod (fun _ _ h => h) fun _ _ _ => .int _
def PowOk (i j : Int) : Prop := 0 ≤ j ∧ j ≤ 1000000 ∧ i.natAbs < 2 ^ 64
abbrev nPow : N2 := nInt PowOk fun i j => .int (i ^ j.toNat)
theorem opN_pow : OpN X (binaryOp .Pow) nPow := opN_int op_pow (fun _ _ h => h) fun _ _ _ => .int _

/-! ### comparisons -/
abbrev nLt : N2 := nInt0 fun i j => .bl (decide (i < j))
abbrev nLe : N2 := nInt0 fun i j => .bl (decide (i ≤ j))
abbrev nGt : N2 := nInt0 fun i j => .bl (decide (j < i))
abbrev nGe : N2 := nInt0 fun i j => .bl (decide (j ≤ i))
theorem opN_lt : OpN X (compareOp .Lt) nLt := opN_int0 op_lt fun _ _ _ => .bl _
theorem opN_le : OpN X (compareOp .LtE) nLe := opN_int0 op_le fun _ _ _ => .bl _
theorem opN_gt : OpN X (compareOp .Gt) nGt := opN_int0 op_gt fun _ _ _ => .bl _
theorem opN_ge : OpN X (compareOp .GtE) nGe := opN_int0 op_ge fun _ _ _ => .bl _
def isNonD : D → Bool
  | .non => true
  | _ => false
def nIsN : N2 := fun x y S Q => match y with
  | .non => Q (.bl (isNonD x)) S
  | _ => False
def nNotN : N2 := fun x y S Q => match y with
  | .non => Q (.bl (!isNonD x)) S
  | _ => False
theorem isNon_ok {K : PySem.W.Frag} {H : Hp} {x : D} {v : V} (r : VR K H x v) : decide (v = .non) = isNonD x := by
  cases r with
  | non => rfl
  | _ => exact decide_eq_false (fun z => by cases z)
theorem opN_isN : OpN X (compareOp .Is) nIsN := by
  refine ⟨_, op_isN, fun x y S Q vx vy H Q' s rx ry n k => ?_⟩
  unfold nIsN at n
  split at n
  · cases ry
    exact ⟨rfl, k _ _ _ _ (.refl H) s (by rw [isNon_ok rx]; exact .bl _) n⟩
  · exact n.elim
theorem opN_notN : OpN X (compareOp .IsNot) nNotN := by
  refine ⟨_, op_notN, fun x y S Q vx vy H Q' s rx ry n k => ?_⟩
  unfold nNotN at n
  split at n
  · cases ry
    exact ⟨rfl, k _ _ _ _ (.refl H) s (by rw [isNon_ok rx]; exact .bl _) n⟩
  · exact n.elim

/-! ### == of data -/
mutual
def pyD : D → Option PyData
  | .non => some .none
  | .bl b => some (.bool b)
  | .int i => some (.int i)
  | .str x => some (.str x)
  | .tup ds => (pyDs ds).map .tuple
  | .rol ds => (pyDs ds).map .list
  | .ref _ => none
  | .ty _ => none
  | .cls _ => none
def pyDs : List D → Option (List PyData)
  | [] => some []
  | d :: r => match pyD d, pyDs r with
    | some a, some b => some (a :: b)
    | _, _ => none
end
def pyT (S : Sto) (d : D) : Option PyData := match d with
  | .ref a => (match S a with
    | some (.lst ds) => (pyDs ds).map .list
    | _ => none)
  | d => pyD d
mutual
theorem pyD_ok {K : PySem.W.Frag} {H : Hp} : ∀ {d : D} {v : V} {p : PyData}, VR K H d v → pyD d = some p → Dp K H v p
  | _, _, _, .non, e => by
    simp only [pyD, Option.some.injEq] at e; subst e; exact .non
  | _, _, _, .bl b, e => by
    simp only [pyD, Option.some.injEq] at e; subst e; exact .bl b
  | _, _, _, .int i, e => by
    simp only [pyD, Option.some.injEq] at e; subst e; exact .int i
  | _, _, _, .str x, e => by
    simp only [pyD, Option.some.injEq] at e; subst e; exact .str x
  | _, _, _, .ref a, e => by simp only [pyD] at e; cases e
  | _, _, _, .ty a, e => by simp only [pyD] at e; cases e
  | _, _, _, .cls a, e => by simp only [pyD] at e; cases e
  | _, _, _, .tup t r, e => by
    simp only [pyD, Option.map_eq_some_iff] at e
    obtain ⟨ps, e1, rfl⟩ := e
    exact .tup t.sq (pyDs_ok r e1)
  | _, _, _, .rol t r, e => by
    simp only [pyD, Option.map_eq_some_iff] at e
    obtain ⟨ps, e1, rfl⟩ := e
    exact .lst t.sq (pyDs_ok r e1)
theorem pyDs_ok {K : PySem.W.Frag} {H : Hp} : ∀ {ds : List D} {vs : List V} {ps : List PyData}, VRs K H ds vs → pyDs ds = some ps → DpAll K H vs ps
  | _, _, _, .nil, e => by simp only [pyDs, Option.some.injEq] at e; subst e; exact .nil
  | d :: r, _, _, .cons h t, e => by
    simp only [pyDs] at e
    split at e
    · rename_i a b e1 e2
      cases e
      exact .cons (pyD_ok h e1) (pyDs_ok t e2)
    · cases e
end
theorem pyT_ok {K : PySem.W.Frag} {S : Sto} {H : Hp} {d : D} {v : V} {p : PyData} (s : SR K S H) (r : VR K H d v) (e : pyT S d = some p) : Dp K H v p := by
  unfold pyT at e
  split at e
  · rename_i a
    cases r
    split at e
    · rename_i ds e1
      obtain ⟨vs, h1, r1⟩ := s.lst e1
      simp only [Option.map_eq_some_iff] at e
      obtain ⟨ps, e2, rfl⟩ := e
      exact .lst (SqL.of h1) (pyDs_ok r1 e2)
    · cases e
  · exact pyD_ok r e
/-- the answer of == and whether it is told -/
def eqT (S : Sto) (x y : D) : Option Bool := match x, y with
  | .int i, .int j => some (decide (i = j))
  | .str a, .str b => some (decide (a = b))
  | .bl a, .bl b => some (decide (a = b))
  | .non, .non => some true
  | .non, .int _ => some false
  | .int _, .non => some false
  | .non, .bl _ => some false
  | .bl _, .non => some false
  | .non, .str _ => some false
  | .str _, .non => some false
  | .int _, .str _ => some false
  | .str _, .int _ => some false
  | .bl _, .str _ => some false
  | .str _, .bl _ => some false
  | x, y => match pyT S x, pyT S y with
    | some d, some e => if SeqAt.shaped d && SeqAt.shaped e then some (PyData.eqv d e) else none
    | _, _ => none
def nEq : N2 := fun x y S Q => match eqT S x y with
  | some b => Q (.bl b) S
  | none => False
def nNe : N2 := fun x y S Q => match eqT S x y with
  | some b => Q (.bl (!b)) S
  | none => False
theorem eqT_ok {K : PySem.W.Frag} {S : Sto} {H : Hp} {x y : D} {vx vy : V} {b : Bool} (s : SR K S H) (rx : VR K H x vx) (ry : VR K H y vy) (e : eqT S x y = some b) :
    (scal vx vy = true ∧ decide (vx = vy) = b) ∨ ∃ d e, Dp K H vx d ∧ Dp K H vy e ∧ SeqAt.shaped d = true ∧ SeqAt.shaped e = true ∧ PyData.eqv d e = b := by
  unfold eqT at e
  split at e
  case h_1 i j => cases rx; cases ry; cases e; exact .inl ⟨rfl, by simp⟩
  case h_2 i j => cases rx; cases ry; cases e; exact .inl ⟨rfl, by simp⟩
  case h_3 i j => cases rx; cases ry; cases e; exact .inl ⟨rfl, by simp⟩
  case h_4 => cases rx; cases ry; cases e; exact .inl ⟨rfl, by simp⟩
  case h_15 =>
    split at e
    · rename_i d d' e1 e2
      split at e
      · rename_i h
        cases e
        rw [Bool.and_eq_true] at h
        exact .inr ⟨d, d', pyT_ok s rx e1, pyT_ok s ry e2, h.1, h.2, rfl⟩
      · cases e
    · cases e
  all_goals (cases rx; cases ry; cases e; exact .inl ⟨rfl, by simp⟩)
theorem opN_eq (hu : X.A.units + 64 < cLine) : OpN X (compareOp .Eq) nEq := by
  refine ⟨_, op_eq.or (op_eqD hu), fun x y S Q vx vy H Q' s rx ry n k => ?_⟩
  unfold nEq at n
  split at n
  · rename_i b e
    rcases eqT_ok s rx ry e with ⟨h1, h2⟩ | ⟨d, d', h1, h2, h3, h4, h5⟩
    · exact .inl ⟨h1, by rw [h2]; exact k _ _ _ _ (.refl H) s (.bl b) n⟩
    · exact .inr ⟨d, d', h1, h2, h3, h4, by rw [h5]; exact k _ _ _ _ (.refl H) s (.bl b) n⟩
  · exact n.elim
theorem opN_ne (hu : X.A.units + 64 < cLine) : OpN X (compareOp .NotEq) nNe := by
  refine ⟨_, op_ne.or (op_neD hu), fun x y S Q vx vy H Q' s rx ry n k => ?_⟩
  unfold nNe at n
  split at n
  · rename_i b e
    rcases eqT_ok s rx ry e with ⟨h1, h2⟩ | ⟨d, d', h1, h2, h3, h4, h5⟩
    · exact .inl ⟨h1, by rw [h2]; exact k _ _ _ _ (.refl H) s (.bl _) n⟩
    · exact .inr ⟨d, d', h1, h2, h3, h4, by rw [h5]; exact k _ _ _ _ (.refl H) s (.bl _) n⟩
  · exact n.elim

/-! ### in, not in -/
def flatD : D → Bool
  | .non => true
  | .bl _ => true
  | .int _ => true
  | .str _ => true
  | _ => false
def eqF : D → D → Bool
  | .non, .non => true
  | .bl a, .bl b => a == b
  | .bl a, .int b => (if a then 1 else 0) == b
  | .int a, .bl b => a == (if b then 1 else 0)
  | .int a, .int b => a == b
  | .str a, .str b => a == b
  | _, _ => false
theorem flat_ok {K : PySem.W.Frag} {H : Hp} {d : D} {v : V} (r : VR K H d v) (f : flatD d = true) : flatV v = true := by
  cases r <;> first | rfl | cases f
theorem eqF_ok {K : PySem.W.Frag} {H : Hp} {d e : D} {v w : V} (r : VR K H d v) (q : VR K H e w) (f : flatD d = true) (g : flatD e = true) : eqV v w = eqF d e := by
  cases r <;> (first | cases f; done | skip) <;> cases q <;> (first | cases g; done | rfl)
theorem flats_ok {K : PySem.W.Frag} {H : Hp} : ∀ {ds : List D} {vs : List V}, VRs K H ds vs → ds.all flatD = true → vs.all flatV = true
  | _, _, .nil, _ => rfl
  | _, _, .cons r t, h => by
    rw [List.all_cons, Bool.and_eq_true] at h
    rw [List.all_cons, Bool.and_eq_true]
    exact ⟨flat_ok r h.1, flats_ok t h.2⟩
theorem inF_ok {K : PySem.W.Frag} {H : Hp} {x : D} {v : V} (rx : VR K H x v) (fx : flatD x = true) : ∀ {ds : List D} {vs : List V}, VRs K H ds vs → ds.all flatD = true → inV v vs = ds.any fun d => eqF d x
  | _, _, .nil, _ => rfl
  | _, _, .cons r t, h => by
    rw [List.all_cons, Bool.and_eq_true] at h
    have e := inF_ok rx fx t h.2
    unfold inV at e ⊢
    rw [List.any_cons, List.any_cons, e, eqF_ok r rx h.1 fx]
/-- the items of a list or a tuple -/
def seqOf (S : Sto) : D → Option (List D)
  | .tup ds => some ds
  | .rol ds => some ds
  | .ref a => (match S a with
    | some (.lst ds) => some ds
    | _ => none)
  | _ => none
theorem seqOf_ok {K : PySem.W.Frag} {S : Sto} {H : Hp} {d : D} {v : V} {ds : List D} (s : SR K S H) (r : VR K H d v) (e : seqOf S d = some ds) : ∃ p vs, v = .ref p ∧ (SqL K H p vs ∨ SqT K H p vs) ∧ VRs K H ds vs := by
  unfold seqOf at e
  split at e
  · cases e
    cases r with
    | tup t r => exact ⟨_, _, rfl, .inr t.sq, r⟩
  · cases e
    cases r with
    | rol t r => exact ⟨_, _, rfl, .inl t.sq, r⟩
  · rename_i a
    cases r
    split at e
    · rename_i es e1
      cases e
      obtain ⟨vs, h1, r1⟩ := s.lst e1
      exact ⟨_, _, rfl, .inl (SqL.of h1), r1⟩
    · cases e
  · cases e
/-- a dict's key -/
def keyD : D → Option Key
  | .int i => some (.inl i)
  | .str x => some (.inr x)
  | _ => none
theorem keyD_ok {K : PySem.W.Frag} {H : Hp} {d : D} {v : V} {k : Key} (r : VR K H d v) (e : keyD d = some k) : v = kV k := by
  cases r <;> first | cases e; rfl | cases e
def dicOf (S : Sto) : D → Option (List (Key × D))
  | .ref a => (match S a with
    | some (.dic kvs) => some kvs
    | some (.lok kvs) => some kvs
    | _ => none)
  | _ => none
theorem dicOf_ok {K : PySem.W.Frag} {S : Sto} {H : Hp} {d : D} {v : V} {kvs : List (Key × D)} (s : SR K S H) (r : VR K H d v) (e : dicOf S d = some kvs) : ∃ a ws, d = .ref a ∧ v = .ref a ∧ Rd H a (.dK ws) ∧ KVR K H kvs ws := by
  unfold dicOf at e
  split at e
  · rename_i a
    cases r
    split at e
    · rename_i es e1
      cases e
      obtain ⟨ws, h1, r1⟩ := s.dic e1
      exact ⟨a, ws, rfl, rfl, .inl h1, r1⟩
    · rename_i es e1
      cases e
      obtain ⟨o, ws, h1, r1⟩ := s a _ e1
      exact ⟨a, ws, rfl, rfl, .inr ⟨o, h1⟩, r1⟩
    · cases e
  · cases e
theorem KVR.val {K : PySem.W.Frag} {H : Hp} {κ : Type} [DecidableEq κ] (k : κ) : ∀ {kvs : List (κ × D)} {ws : List (κ × V)}, KVR K H kvs ws → (∀ d, (kvs.find? fun kv => decide (kv.1 = k)).map (·.2) = some d → ∃ v, valV ws k = some v ∧ VR K H d v) ∧ ((kvs.find? fun kv => decide (kv.1 = k)).map (·.2) = none → valV ws k = none)
  | _, _, .nil => ⟨fun d h => (by cases h), fun _ => rfl⟩
  | p :: ps, q :: qs, .cons h t => by
    have ih := KVR.val k t
    by_cases e : p.1 = k
    · have e' : q.1 = k := h.1 ▸ e
      refine ⟨fun d z => ?_, fun z => ?_⟩
      · simp only [List.find?_cons, e, decide_true, Option.map_some, Option.some.injEq] at z
        subst z
        exact ⟨_, valV_pos e', h.2⟩
      · simp only [List.find?_cons, e, decide_true, Option.map_some] at z
        cases z
    · have e' : ¬ q.1 = k := fun z => e (h.1.trans z)
      rw [valV_neg e']
      simp only [List.find?_cons, e, decide_false]
      exact ih
/-- what a key tells -/
def dget (kvs : List (Key × D)) (k : Key) : Option D := (kvs.find? fun kv => decide (kv.1 = k)).map (·.2)
def nIn : N2 := fun x y S Q => match seqOf S y with
  | some ds => flatD x = true ∧ ds.all flatD = true ∧ Q (.bl (ds.any fun d => eqF d x)) S
  | none => match dicOf S y with
    | some kvs => (match keyD x with
      | some k => Q (.bl (dget kvs k).isSome) S
      | none => False)
    | none => match x, y with
      | .str c, .str z => c.cps.size = 1 ∧ Q (.bl (decide (c.cps.getD 0 0 ∈ z.cps.toList))) S
      | _, _ => False
def nNin : N2 := fun x y S Q => nIn x y S fun d S' => match d with
  | .bl b => Q (.bl (!b)) S'
  | _ => False
theorem one_sign {c : Str} (h : c.cps.size = 1) : c = ⟨#[c.cps.getD 0 0]⟩ := by
  obtain ⟨l⟩ := c
  obtain ⟨l⟩ := l
  cases l with
  | nil => cases h
  | cons a t =>
    cases t with
    | nil => rfl
    | cons b t => simp at h
theorem op_inD (hu : X.A.units + 1 < cLine) : OpR X (compareOp .In) (fun y x H Q => ∃ a o, x = .ref a ∧ DGet H a y o ∧ Q (.bl o.isSome) H) := by
  intro pins s σ H x y v u Q I rx ry h
  obtain ⟨a, o, rfl, g, q⟩ := h
  cases (show u = Value.ref a from ry)
  exact d_in hu I g rx fun s' I' => ⟨.bl _, H, I', rfl, q⟩
theorem op_notInD (hu : X.A.units + 1 < cLine) : OpR X (compareOp .NotIn) (fun y x H Q => ∃ a o, x = .ref a ∧ DGet H a y o ∧ Q (.bl (!o.isSome)) H) := by
  intro pins s σ H x y v u Q I rx ry h
  obtain ⟨a, o, rfl, g, q⟩ := h
  cases (show u = Value.ref a from ry)
  exact d_notIn hu I g rx fun s' I' => ⟨.bl _, H, I', rfl, q⟩
theorem dget_ok {K : PySem.W.Frag} {H : Hp} {kvs : List (Key × D)} {ws : List (Key × V)} (r : KVR K H kvs ws) (k : Key) : (valV ws k).isSome = (dget kvs k).isSome := by
  obtain ⟨h1, h2⟩ := KVR.val k r
  unfold dget
  cases e : (kvs.find? fun kv => decide (kv.1 = k)).map (·.2) with
  | none => rw [h2 e] <;> rfl
  | some d =>
    obtain ⟨v, h, _⟩ := h1 d e
    rw [h] <;> rfl
theorem opN_in (hu : X.A.units + 1 < cLine) : OpN X (compareOp .In) nIn := by
  refine ⟨_, op_in_seq.or ((op_inD hu).or op_in_sign), fun x y S Q vx vy H Q' s rx ry n k => ?_⟩
  unfold nIn at n
  split at n
  · rename_i ds e
    obtain ⟨p, vs, rfl, hs, r⟩ := seqOf_ok s ry e
    exact .inl ⟨p, vs, rfl, hs, flat_ok rx n.1, flats_ok r n.2.1, by rw [inF_ok rx n.1 r n.2.1]; exact k _ _ _ _ (.refl H) s (.bl _) n.2.2⟩
  · split at n
    · rename_i kvs e
      obtain ⟨a, ws, rfl, rfl, h1, r⟩ := dicOf_ok s ry e
      split at n
      · rename_i kk ek
        have := keyD_ok rx ek
        subst this
        exact .inr (.inl ⟨a, _, rfl, .inl ⟨ws, kk, h1, rfl, rfl⟩, by rw [dget_ok r]; exact k _ _ _ _ (.refl H) s (.bl _) n⟩)
      · exact n.elim
    · split at n
      · rename_i c z _ _
        cases rx; cases ry
        exact .inr (.inr ⟨_, z, congrArg V.str (one_sign n.1), rfl, k _ _ _ _ (.refl H) s (.bl _) n.2⟩)
      · exact n.elim
theorem opN_nin (hu : X.A.units + 1 < cLine) : OpN X (compareOp .NotIn) nNin := by
  refine ⟨_, op_notIn_seq.or ((op_notInD hu).or op_notIn_sign), fun x y S Q vx vy H Q' s rx ry n k => ?_⟩
  unfold nNin nIn at n
  split at n
  · rename_i ds e
    obtain ⟨p, vs, rfl, hs, r⟩ := seqOf_ok s ry e
    refine .inl ⟨p, vs, rfl, hs, flat_ok rx n.1, flats_ok r n.2.1, ?_⟩
    rw [if_pos rfl, inF_ok rx n.1 r n.2.1]
    exact k _ _ _ _ (.refl H) s (.bl _) n.2.2
  · split at n
    · rename_i kvs e
      obtain ⟨a, ws, rfl, rfl, h1, r⟩ := dicOf_ok s ry e
      split at n
      · rename_i kk ek
        have := keyD_ok rx ek
        subst this
        exact .inr (.inl ⟨a, _, rfl, .inl ⟨ws, kk, h1, rfl, rfl⟩, by rw [dget_ok r]; exact k _ _ _ _ (.refl H) s (.bl _) n⟩)
      · exact n.elim
    · split at n
      · rename_i c z _ _
        cases rx; cases ry
        exact .inr (.inr ⟨_, z, congrArg V.str (one_sign n.1), rfl, k _ _ _ _ (.refl H) s (.bl _) n.2⟩)
      · exact n.elim
end
end N

set_option Elab.async false
set_option linter.all false
set_option maxRecDepth 100000
set_option maxHeartbeats 4000000
namespace N
variable [TabList]
open PySem PySem.Spec PyProof.Rows L2

/-! ### items -/
section
variable {K : PySem.W.Frag} {H : Hp}
theorem VRs.atI {ds : List D} {vs : List V} {i : Int} {d : D} (r : VRs K H ds vs) (e : L2.atI ds i = some d) : ∃ v, L2.atI vs i = some v ∧ VR K H d v := by
  unfold L2.atI at e ⊢
  rw [← r.length]
  cases h : ixN ds.length i with
  | none => rw [h] at e; cases e
  | some j =>
    rw [h] at e
    exact r.get e
end
section
variable {X : Cx} {H0 : Hp} {a b c o : Expr} {ma mb mo : NE} {pos : Pos} {es : List Expr} {mr : NA}
def nIx : N2 := fun x y S Q => match seqOf S x, y with
  | some ds, .int i => (match L2.atI ds i with
    | some d => Q d S
    | none => False)
  | _, _ => match dicOf S x, keyD y with
    | some kvs, some k => (match dget kvs k with
      | some d => Q d S
      | none => False)
    | _, _ => match x, y with
      | .str z, .int i => z.length ≤ sizeLine ∧ (match L2.atI z.cps.toList i with
        | some c => Q (.str ⟨#[c]⟩) S
        | none => False)
      | _, _ => False
theorem ix_dict (hu : X.A.units + 1 < cLine) : IxR X (fun x y H Q => ∃ a v, x = .ref a ∧ DGet H a y (some v) ∧ Q v H) := by
  intro value slice pins s σ H x y v u Q I rx ry h hs
  obtain ⟨a, w, rfl, g, q⟩ := h
  obtain rfl : v = Value.ref a := rx
  exact tail_any (ops := [.ref a, u]) (dict_typeIs I g) F.slot_dict_getitem.lookup (d_getItem hu I g ry fun w' s' I' r' => ⟨w, H, I', r', q⟩) hs
theorem ixN_seqv (hu : X.A.units + 1 < cLine) : IxN X nIx := by
  refine ⟨_, (ix_list.or ix_tup).or ((ix_dict hu).or ix_str), fun x y S Q vx vy H Q' s rx ry n k => ?_⟩
  unfold nIx at n
  split at n
  · rename_i ds i e
    cases ry
    obtain ⟨p, vs, rfl, hs, r⟩ := seqOf_ok s rx e
    split at n
    · rename_i d ed
      obtain ⟨v, h1, h2⟩ := r.atI ed
      rcases hs with hs | hs
      · exact .inl (.inl ⟨p, vs, i, v, rfl, rfl, hs, h1, k _ _ _ _ (.refl H) s h2 n⟩)
      · exact .inl (.inr ⟨p, vs, i, v, rfl, rfl, hs, h1, k _ _ _ _ (.refl H) s h2 n⟩)
    · exact n.elim
  · split at n
    · rename_i kvs kk e1 e2
      obtain ⟨p, ws, rfl, rfl, h1, r⟩ := dicOf_ok s rx e1
      have := keyD_ok ry e2
      subst this
      split at n
      · rename_i d ed
        obtain ⟨v, h3, h4⟩ := (KVR.val kk r).1 d ed
        exact .inr (.inl ⟨p, v, rfl, by rw [← h3]; exact .inl ⟨ws, kk, h1, rfl, rfl⟩, k _ _ _ _ (.refl H) s h4 n⟩)
      · exact n.elim
    · split at n
      · rename_i z i _ _
        cases rx; cases ry
        obtain ⟨n1, n2⟩ := n
        split at n2
        · rename_i c ec
          exact .inr (.inr ⟨z, i, c, rfl, rfl, n1, ec, k _ _ _ _ (.refl H) s (.str _) n2⟩)
        · exact n2.elim
      · exact n.elim
theorem je_ix (hi : IxN X nIx) (ha : JE X H0 a ma) (hb : JE X H0 b mb) (hs : PlainIx b := by exact fun _ _ => rfl) : JE X H0 (.Subscript a b pos) (mOp nIx ma mb) := by
  obtain ⟨r, h1, h2⟩ := hi
  exact (pe_ix h1 ha hb hs).imq fun _ _ _ h => bin_ok h2 h

/-! ### slices -/
abbrev NO := Env → Sto → (Option Int → Sto → Prop) → Prop
def lO (K : PySem.W.Frag) (H0 : Hp) (m : NO) : TO := fun σ H Q => ∃ e S Q', At K H0 H σ e S ∧ m e S Q' ∧ ∀ b S' H', HExt H H' → SR K S' H' → Q' b S' → Q b H'
abbrev JO (X : Cx) (H0 : Hp) (e : Option Expr) (m : NO) : Prop := PO X e (lO X.K H0 m)
def mNoPart : NO := fun _ S Q => Q none S
def mPart (m : NE) : NO := fun e S Q => m e S fun d S1 => match d with
  | .int i => Q (some i) S1
  | _ => False
theorem _root_.L2.PO.imq {e : Option Expr} {t t' : TO} (h : PO X e t) (i : ∀ σ H Q, t' σ H Q → t σ H Q) : PO X e t' := ⟨fun pins s σ H Q I q => h.run pins s σ H Q I (i _ _ _ q)⟩
theorem jo_none : JO X H0 none mNoPart := po_none.imq fun σ H Q ⟨e, S, Q', A, m, k⟩ => k none S H (.refl H) A.s m
theorem jo_some (h : JE X H0 a ma) : JO X H0 (some a) (mPart ma) := (po_some h).imq fun σ H Q ⟨e, S, Q', A, m, k⟩ => ⟨e, S, _, A, m, fun d S1 v H1 x1 s1 r q => by
  cases d with
  | int i => cases r; exact ⟨i, rfl, k _ S1 H1 x1 s1 q⟩
  | _ => exact q.elim⟩
def cutD (xs : List D) (lo hi : Option Int) : List D := (xs.drop (HT.sIx xs.length 0 lo)).take (HT.sIx xs.length xs.length hi - HT.sIx xs.length 0 lo)
theorem cut_ok {K : PySem.W.Frag} {H : Hp} {ds : List D} {vs : List V} (r : VRs K H ds vs) (lo hi : Option Int) : VRs K H (cutD ds lo hi) (cutV vs lo hi) := by
  unfold cutD cutV
  rw [r.length]
  exact (r.drop _).take _
def nSl : D → Option Int → Option Int → Sto → NQ → Prop := fun x lo hi S Q => match x with
  | .tup ds => Q (.tup (cutD ds lo hi)) S
  | .str z => z.length ≤ sizeLine ∧ Q (.str (cutS z lo hi)) S
  | .rol ds => ∀ p, S p = none → Q (.ref p) (put S p (.lst (cutD ds lo hi)))
  | .ref a => (match S a with
    | some (.lst ds) => ∀ p, S p = none → Q (.ref p) (put S p (.lst (cutD ds lo hi)))
    | _ => False)
  | _ => False
def mSl (m : NE) (l h : NO) : NE := fun e S Q => m e S fun x S1 => l e S1 fun lo S2 => h e S2 fun hi S3 => nSl x lo hi S3 Q
theorem whole_cut {ds : List D} {lo hi : Option Int} (h : HT.sIx ds.length 0 lo = 0 ∧ HT.sIx ds.length ds.length hi = ds.length) : cutD ds lo hi = ds := by
  unfold cutD
  rw [h.1, h.2]
  simp
theorem je_slice {lo hi : Option Expr} {l h : NO} {p2 : Pos} (he : JE X H0 a ma) (hl : JO X H0 lo l) (hh : JO X H0 hi h) : JE X H0 (.Subscript a (.Slice lo hi none p2) pos) (mSl ma l h) := by
  refine (pe_slice (sl_tupA.or (sl_list.or sl_str)) he hl hh).imq fun σ H Q h => ?_
  obtain ⟨e, S, Q', A, m, k⟩ := h
  refine ⟨e, S, _, A, m, fun x S1 vx H1 x1 s1 rx m1 => ?_⟩
  refine ⟨e, S1, _, A.next x1 s1, m1, fun lo S2 H2 x2 s2 m2 => ?_⟩
  refine ⟨e, S2, _, A.next (x1.trans x2) s2, m2, fun hi S3 H3 x3 s3 n => ?_⟩
  have rx3 := (rx.ext x2).ext x3
  have x13 := (x1.trans x2).trans x3
  unfold nSl at n
  split at n
  · rename_i ds
    cases rx3 with
    | tup t r =>
      rename_i p vs
      refine .inl ⟨p, vs, rfl, t.sq, fun w => ?_, fun w q nq => ?_⟩
      · rw [← r.length] at w
        rw [whole_cut w] at n
        exact k _ _ _ _ x13 s3 (.tup t r) n
      · exact k _ _ _ _ (x13.trans (.new nq)) (s3.more nq) (.tup (.inl upd_same) ((cut_ok r lo hi).ext (.new nq))) n
  · rename_i z
    cases rx3
    exact .inr (.inr ⟨z, rfl, n.1, k _ _ _ _ x13 s3 (.str _) n.2⟩)
  · rename_i ds
    cases rx3 with
    | rol t r =>
      rename_i p vs
      refine .inr (.inl ⟨p, _, rfl, t.sq, fun q nq => ?_⟩)
      exact k _ _ _ _ (x13.trans (.new nq)) (lst_ok s3 nq (cut_ok r lo hi)) (.ref q) (n q (s3.fresh nq))
  · rename_i p
    cases rx3
    split at n
    · rename_i es e2
      obtain ⟨vs', h1, r1⟩ := s3.lst e2
      refine .inr (.inl ⟨p, _, rfl, SqL.of h1, fun q nq => ?_⟩)
      exact k _ _ _ _ (x13.trans (.new nq)) (lst_ok s3 nq (cut_ok r1 lo hi)) (.ref q) (n q (s3.fresh nq))
    · exact n.elim
  · exact n.elim
/-- xs[::-1] -/
def nRev : D → Sto → NQ → Prop := fun x S Q => match x with
  | .ref a => (match S a with
    | some (.lst ds) => ∀ p, S p = none → Q (.ref p) (put S p (.lst ds.reverse))
    | _ => False)
  | _ => False
def mUn (n : D → Sto → NQ → Prop) (m : NE) : NE := fun e S Q => m e S fun x S1 => n x S1 Q
theorem je_rev {k : Nat} {p1 p2 p3 : Pos} (he : JE X H0 a ma) : JE X H0 (.Subscript a (.Slice none none (some (.UnaryOp .USub (.Constant (.int 1) k p1) p2)) p3) pos) (mUn nRev ma) := by
  refine (pe_revL he).imq fun σ H Q h => ?_
  obtain ⟨e, S, Q', A, m, k⟩ := h
  refine ⟨e, S, _, A, m, fun x S1 vx H1 x1 s1 rx n => ?_⟩
  unfold nRev at n
  split at n
  · rename_i p
    cases rx
    split at n
    · rename_i ds e1
      obtain ⟨vs, h1, r1⟩ := s1.lst e1
      exact ⟨p, vs, rfl, SqL.of h1, fun q nq => k _ _ _ _ (x1.trans (.new nq)) (lst_ok s1 nq r1.reverse) (.ref q) (n q (s1.fresh nq))⟩
    · exact n.elim
  · exact n.elim
def nNeg : D → Sto → NQ → Prop := fun x S Q => match x with
  | .int i => Q (.int (-i)) S
  | _ => False
theorem je_neg (he : JE X H0 a ma) : JE X H0 (.UnaryOp .USub a pos) (mUn nNeg ma) := by
  refine (pe_un un_neg he).imq fun σ H Q h => ?_
  obtain ⟨e, S, Q', A, m, k⟩ := h
  refine ⟨e, S, _, A, m, fun x S1 vx H1 x1 s1 rx n => ?_⟩
  unfold nNeg at n
  split at n
  · rename_i i
    cases rx
    exact ⟨i, rfl, k _ _ _ _ x1 s1 (.int _) n⟩
  · exact n.elim

/-! ### fields -/
theorem KVR.look {K : PySem.W.Frag} {H : Hp} {f : Str} : ∀ {fs : List (Str × D)} {ws : List (Str × V)}, KVR K H fs ws → (∀ d, fs.lookup f = some d → ∃ v, ws.lookup f = some v ∧ VR K H d v) ∧ (fs.lookup f = none → ws.lookup f = none)
  | _, _, .nil => ⟨fun d h => (by cases h), fun _ => rfl⟩
  | (g, d0) :: fs, (g', v0) :: ws, .cons h t => by
    have ih := KVR.look (f := f) t
    obtain ⟨h1, h2⟩ := h
    have h1 : g = g' := h1
    subst h1
    rw [List.lookup_cons, List.lookup_cons]
    cases e : (f == g) with
    | true => exact ⟨fun d q => by cases q; exact ⟨_, rfl, h2⟩, fun q => by cases q⟩
    | false => exact ih
def putD (f : Str) (v : D) : List (Str × D) → List (Str × D)
  | [] => [(f, v)]
  | (g, u) :: r => if g = f then (g, v) :: r else (g, u) :: putD f v r
theorem putD_ok {K : PySem.W.Frag} {H : Hp} {f : Str} {d : D} {v : V} (r : VR K H d v) : ∀ {fs : List (Str × D)} {ws : List (Str × V)}, KVR K H fs ws → KVR K H (putD f d fs) (putF f v ws)
  | _, _, .nil => .cons ⟨rfl, r⟩ .nil
  | (g, d0) :: fs, (g', v0) :: ws, .cons h t => by
    obtain ⟨h1, h2⟩ := h
    have h1 : g = g' := h1
    subst h1
    unfold putD putF
    by_cases e : g = f
    · rw [if_pos e, if_pos e]; exact .cons ⟨rfl, r⟩ t
    · rw [if_neg e, if_neg e]; exact .cons ⟨rfl, h2⟩ (putD_ok r t)
def nFld (f : Str) : D → Sto → NQ → Prop := fun x S Q => match x with
  | .ref a => (match S a with
    | some (.ins _ fs) => (match fs.lookup f with
      | some v => Q v S
      | none => False)
    | _ => False)
  | _ => False
theorem je_fld {f : Str} (he : JE X H0 a ma) (hf : f ∈ FN := by decide +kernel) (hb : attributeBase a f X.env (eval a X.env) = eval a X.env := by rfl) : JE X H0 (.Attribute a f pos) (mUn (nFld f) ma) := by
  refine (pe_fld he hb).imq fun σ H Q h => ?_
  obtain ⟨e, S, Q', A, m, k⟩ := h
  refine ⟨e, S, _, A, m, fun x S1 vx H1 x1 s1 rx n => ?_⟩
  unfold nFld at n
  split at n
  · rename_i p
    cases rx
    split at n
    · rename_i c fs e1
      obtain ⟨dx, ws, h1, r1, co⟩ := s1.ins e1
      split at n
      · rename_i d ed
        obtain ⟨v, h2, h3⟩ := (KVR.look (f := f) r1).1 d ed
        exact ⟨p, _, dx, ws, v, rfl, h1, co.cl, co.no f hf, h2, k _ _ _ _ x1 s1 h3 n⟩
      · exact n.elim
    · exact n.elim
  · exact n.elim
theorem SR.setIns {K : PySem.W.Frag} {S : Sto} {H : Hp} {p dx : Addr} {c f : Str} {fs : List (Str × D)} {ws : List (Str × V)} {d : D} {v : V} (s : SR K S H) (h : H p = some (.ins (He.ga K c) dx ws)) (r : KVR K H fs ws) (co : ClsOk K c) (rv : VR K H d v) :
    HExt H (upd H p (.ins (He.ga K c) dx (putF f v ws))) ∧ SR K (N.put S p (.ins c (putD f d fs))) (upd H p (.ins (He.ga K c) dx (putF f v ws))) := by
  have x : HExt H (upd H p (.ins (He.ga K c) dx (putF f v ws))) := .upd h True.intro
  exact ⟨x, s.put (o := .ins c (putD f d fs)) x ⟨dx, _, upd_same, KVR.ext x (putD_ok rv r), co⟩⟩
def sFldN (f : Str) (mv mo : NE) : NS := fun D e S => mv e S fun y S1 => mo e S1 fun x S2 => match x with
  | .ref a => (match S2 a with
    | some (.ins c fs) => fs.length < 1000 ∧ D.nx e (put S2 a (.ins c (putD f y fs)))
    | _ => False)
  | _ => False
theorem js_fld {f : Str} {value : Expr} {mv : NE} {pos' : Pos} (ho : JE X H0 o mo) (hv : JE X H0 value mv) (hf : f ∈ FN := by decide +kernel) (hs : swapsWith value (some (.Attribute o f pos')) pos.line X.env = pure false := by rfl) :
    JS X H0 (.Assign [.Attribute o f pos'] value pos) (sFldN f mv mo) := by
  refine (ps_fld ho hv hs).imq fun D σ H h => ?_
  obtain ⟨e, S, D', A, m, k⟩ := h
  refine ⟨e, S, _, A, m, fun y S1 vy H1 x1 s1 ry m1 => ?_⟩
  refine ⟨e, S1, _, A.next x1 s1, m1, fun x S2 vx H2 x2 s2 rx n => ?_⟩
  split at n
  · rename_i p
    cases rx
    split at n
    · rename_i c fs e1
      obtain ⟨dx, ws, h1, r1, co⟩ := s2.ins e1
      obtain ⟨x3, s3⟩ := s2.setIns (f := f) h1 r1 co (ry.ext x2)
      refine ⟨p, _, dx, ws, rfl, h1, co.cl, co.no f hf, by have := Paired.length r1; omega, ?_⟩
      exact k.nx _ _ _ _ ((x1.trans x2).trans x3) (A.next ((x1.trans x2).trans x3) s3) n.2
    · exact n.elim
  · exact n.elim
end
end N

set_option Elab.async false
set_option linter.all false
set_option maxRecDepth 100000
set_option maxHeartbeats 4000000
namespace N
variable [TabList]
open PySem PySem.Spec PyProof.Rows L2

/-! ### calls of built-ins -/
def mCallB (n : NL) (mr : NA) : NE := fun e S Q => mr e S fun ds S1 => n ds S1 Q
section
variable {X : Cx} {H0 : Hp} {a b c o : Expr} {ma mb mo : NE} {pos : Pos} {es : List Expr} {mr : NA}
theorem callb_ok {r : List V → Hp → VK → Prop} {n : NL} (hn : OpL X.K r n) {σ : L2.St} {H : Hp} {Q : VK} (h : lE X.K H0 (mCallB n mr) σ H Q) : tCB r (lA X.K H0 mr) σ H Q := by
  obtain ⟨e, S, Q', A, m, k⟩ := h
  refine ⟨e, S, _, A, m, fun ds S1 vs H1 x1 s1 rs m1 => ?_⟩
  exact hn ds S1 Q' vs H1 Q s1 rs m1 fun d S' v H' x2 s2 rd q => k d S' v H' (x1.trans x2) s2 rd q
theorem je_callB {x : Str} {id : String} {p : Pos} {n : NL} (hc : CallN X (.builtin id) n) (hm : X.mg x = none) (ha : JA X H0 (a :: es) mr) (hv : bootBuiltins x = some (.builtin id) := by decide +kernel) (hg : Gl X x := by rfl)
    (hn : x ≠ "__name__" := by decide +kernel) (hdb : (x == ("__debug__" : Str)) = false := by decide +kernel)
    (he : starEach (a :: es) X.env = (false, eval a X.env) :: starEach es X.env := by rfl) (hpl : (backTo pos (starEach es X.env)).any (·.1) = false := by rfl) : JE X H0 (.Call (.Name x p) (a :: es) [] pos) (mCallB n mr) := by
  obtain ⟨r, h1, h2⟩ := hc
  exact (pe_callB h1 hg hm hv ha hn hdb he hpl).imq fun _ _ _ h => callb_ok h2 h
theorem je_callTy {x : Str} {T : String} {p : Pos} {n : NL} (hc : CallN X (.type T) n) (hm : X.mg x = none) (ha : JA X H0 (a :: es) mr) (hv : bootBuiltins x = some (.type T) := by decide +kernel) (hg : Gl X x := by rfl)
    (hn : x ≠ "__name__" := by decide +kernel) (hdb : (x == ("__debug__" : Str)) = false := by decide +kernel)
    (he : starEach (a :: es) X.env = (false, eval a X.env) :: starEach es X.env := by rfl) (hpl : (backTo pos (starEach es X.env)).any (·.1) = false := by rfl) : JE X H0 (.Call (.Name x p) (a :: es) [] pos) (mCallB n mr) := by
  obtain ⟨r, h1, h2⟩ := hc
  exact (pe_callTy h1 hg hm hv ha hn hdb he hpl).imq fun _ _ _ h => callb_ok h2 h

/-- how many items, signs, entries -/
def lenD (S : Sto) (d : D) : Option Nat := match d with
  | .str z => if z.length ≤ sizeLine then some z.length else none
  | d => match seqOf S d with
    | some ds => some ds.length
    | none => (dicOf S d).map List.length
def nLen : NL := fun xs S Q => match xs with
  | [d] => (match lenD S d with
    | some n => Q (.int n) S
    | none => False)
  | _ => False
theorem call_lenDict : CallR X (.builtin "len") (fun xs H Q => ∃ a kvs, xs = [.ref a] ∧ Rd H a (.dK kvs) ∧ Q (.int kvs.length) H) := by
  intro pins s σ H xs us Q I r h
  obtain ⟨p, kvs, rfl, e, q⟩ := h
  obtain rfl := Vals.ref1 r
  exact d_len I e fun t s' I' => ⟨.int kvs.length, H, I', ⟨t, rfl⟩, q⟩
theorem vrs1 {K : PySem.W.Frag} {H : Hp} {d : D} {vs : List V} (r : VRs K H [d] vs) : ∃ v, vs = [v] ∧ VR K H d v := by
  cases r with
  | cons r t => cases t; exact ⟨_, rfl, r⟩
theorem vrs2 {K : PySem.W.Frag} {H : Hp} {d d' : D} {vs : List V} (r : VRs K H [d, d'] vs) : ∃ v w, vs = [v, w] ∧ VR K H d v ∧ VR K H d' w := by
  cases r with
  | cons r t =>
    cases t with
    | cons r' t => cases t; exact ⟨_, _, rfl, r, r'⟩
theorem callN_len : CallN X (.builtin "len") nLen := by
  refine ⟨_, call_len_seq.or (call_len_str.or call_lenDict), fun xs S Q vs H Q' s r n k => ?_⟩
  unfold nLen at n
  split at n
  · rename_i d
    obtain ⟨v, rfl, rd⟩ := vrs1 r
    split at n
    · rename_i l el
      unfold lenD at el
      split at el
      · rename_i z
        cases rd
        split at el
        · rename_i hz
          cases el
          exact .inr (.inl ⟨z, rfl, hz, k _ _ _ _ (.refl H) s (.int _) n⟩)
        · cases el
      · split at el
        · rename_i ds e1
          cases el
          obtain ⟨p, ws, rfl, hs, r1⟩ := seqOf_ok s rd e1
          exact .inl ⟨p, ws, rfl, hs, by rw [← r1.length]; exact k _ _ _ _ (.refl H) s (.int _) n⟩
        · simp only [Option.map_eq_some_iff] at el
          obtain ⟨kvs, e2, rfl⟩ := el
          obtain ⟨p, ws, rfl, rfl, h1, r1⟩ := dicOf_ok s rd e2
          exact .inr (.inr ⟨p, ws, rfl, h1, by rw [← Paired.length r1]; exact k _ _ _ _ (.refl H) s (.int _) n⟩)
    · exact n.elim
  · exact n.elim
def nMax2 : NL := fun xs S Q => match xs with
  | [.int i, .int j] => Q (.int (if j > i then j else i)) S
  | _ => False
def nMin2 : NL := fun xs S Q => match xs with
  | [.int i, .int j] => Q (.int (if j < i then j else i)) S
  | _ => False
theorem callN_max2 (hc : X.calm = true) : CallN X (.builtin "max") nMax2 := by
  refine ⟨_, call_max2 hc, fun xs S Q vs H Q' s r n k => ?_⟩
  unfold nMax2 at n
  split at n
  · rename_i i j
    obtain ⟨v, w, rfl, r1, r2⟩ := vrs2 r
    cases r1; cases r2
    exact ⟨i, j, rfl, k _ _ _ _ (.refl H) s (.int _) n⟩
  · exact n.elim
theorem callN_min2 (hc : X.calm = true) : CallN X (.builtin "min") nMin2 := by
  refine ⟨_, call_min2 hc, fun xs S Q vs H Q' s r n k => ?_⟩
  unfold nMin2 at n
  split at n
  · rename_i i j
    obtain ⟨v, w, rfl, r1, r2⟩ := vrs2 r
    cases r1; cases r2
    exact ⟨i, j, rfl, k _ _ _ _ (.refl H) s (.int _) n⟩
  · exact n.elim
def nAbs : NL := fun xs S Q => match xs with
  | [.int i] => Q (.int (if i < 0 then -i else i)) S
  | _ => False
theorem callN_abs : CallN X (.builtin "abs") nAbs := by
  refine ⟨_, call_abs, fun xs S Q vs H Q' s r n k => ?_⟩
  unfold nAbs at n
  split at n
  · rename_i i
    obtain ⟨v, rfl, r1⟩ := vrs1 r
    cases r1
    exact ⟨i, rfl, k _ _ _ _ (.refl H) s (.int _) n⟩
  · exact n.elim
/-- int(a number, a truth) -/
def nInt1 : NL := fun xs S Q => match xs with
  | [.int i] => Q (.int i) S
  | [.bl b] => Q (.int (if b then 1 else 0)) S
  | [.str z] => ∃ n, PySem.intText? z = some n ∧ z.length ≤ 640 ∧ Q (.int n) S
  | _ => False
theorem callN_int : CallN X (.type "int") nInt1 := by
  refine ⟨_, call_int1.or call_int_str, fun xs S Q vs H Q' s r n k => ?_⟩
  unfold nInt1 at n
  split at n
  · rename_i i
    obtain ⟨v, rfl, r1⟩ := vrs1 r
    cases r1
    exact .inl (.inl ⟨i, rfl, k _ _ _ _ (.refl H) s (.int _) n⟩)
  · rename_i i
    obtain ⟨v, rfl, r1⟩ := vrs1 r
    cases r1
    exact .inl (.inr ⟨i, rfl, k _ _ _ _ (.refl H) s (.int _) n⟩)
  · rename_i z
    obtain ⟨v, rfl, r1⟩ := vrs1 r
    cases r1
    obtain ⟨m, h1, h2, h3⟩ := n
    exact .inr ⟨z, m, rfl, h1, h2, k _ _ _ _ (.refl H) s (.int _) h3⟩
  · exact n.elim
/-- str(a number) -/
def nStr1 : NL := fun xs S Q => match xs with
  | [.int i] => i.natAbs < 2 ^ 1900 ∧ Q (.str (toString i)) S
  | _ => False
theorem callN_str : CallN X (.type "str") nStr1 := by
  refine ⟨_, call_str_int, fun xs S Q vs H Q' s r n k => ?_⟩
  unfold nStr1 at n
  split at n
  · rename_i i
    obtain ⟨v, rfl, r1⟩ := vrs1 r
    cases r1
    exact ⟨i, rfl, Nat.lt_of_lt_of_le (PySem.Flt.log2_lt_of (by decide) n.1) (by decide), k _ _ _ _ (.refl H) s (.str _) n.2⟩
  · exact n.elim
/-- list(a list, a tuple) -/
def nList1 : NL := fun xs S Q => match xs with
  | [d] => (match seqOf S d with
    | some ds => ∀ p, S p = none → Q (.ref p) (put S p (.lst ds))
    | none => False)
  | _ => False
theorem callN_list : CallN X (.type "list") nList1 := by
  refine ⟨_, call_list_of, fun xs S Q vs H Q' s r n k => ?_⟩
  unfold nList1 at n
  split at n
  · rename_i d
    obtain ⟨v, rfl, rd⟩ := vrs1 r
    split at n
    · rename_i ds e1
      obtain ⟨p, ws, rfl, hs, r1⟩ := seqOf_ok s rd e1
      exact ⟨p, ws, rfl, hs, fun q nq => k _ _ _ _ (.new nq) (lst_ok s nq r1) (.ref q) (n q (s.fresh nq))⟩
    · exact n.elim
  · exact n.elim
/-- tuple(a list, a tuple) -/
def nTuple1 : NL := fun xs S Q => match xs with
  | [d] => (match seqOf S d with
    | some ds => Q (.tup ds) S
    | none => False)
  | _ => False
theorem callN_tuple : CallN X (.type "tuple") nTuple1 := by
  refine ⟨_, call_tuple_of, fun xs S Q vs H Q' s r n k => ?_⟩
  unfold nTuple1 at n
  split at n
  · rename_i d
    obtain ⟨v, rfl, rd⟩ := vrs1 r
    split at n
    · rename_i ds e1
      cases d with
      | tup es =>
        cases e1
        cases rd with
        | tup t r1 => exact ⟨_, _, rfl, .inr ⟨t.sq, k _ _ _ _ (.refl H) s (.tup t r1) n⟩⟩
      | rol es =>
        cases e1
        cases rd with
        | rol t r1 => exact ⟨_, _, rfl, .inl ⟨t.sq, fun q nq => k _ _ _ _ (.new nq) (s.more nq) (.tup (.inl upd_same) (r1.ext (.new nq))) n⟩⟩
      | ref a =>
        cases rd
        unfold seqOf at e1
        dsimp only at e1
        split at e1
        · rename_i es e2
          cases e1
          obtain ⟨ws, h1, r1⟩ := s.lst e2
          exact ⟨_, _, rfl, .inl ⟨SqL.of h1, fun q nq => k _ _ _ _ (.new nq) (s.more nq) (.tup (.inl upd_same) (r1.ext (.new nq))) n⟩⟩
        · cases e1
      | _ => cases e1
    · exact n.elim
  · exact n.elim

/-! ### isinstance -/
inductive Tg where
  | ty (n : String) | cls (c : Str)
  deriving DecidableEq
def Tg.v (K : PySem.W.Frag) : Tg → Value
  | .ty n => .type n
  | .cls c => .ref (He.ga K c)
def isT : Tg → Tg → Bool
  | .ty a, .ty b => a == b || (a == "bool" && b == "int")
  | .ty _, .cls _ => false
  | .cls _, .ty b => b == "ValueError"
  | .cls c, .cls d => decide (c = d) || decide (d = "MartError")
/-- the kinds that are asked, those that are asked for; CL: the text's own errors -/
def T1 (CL : List Str) : List Tg := [.ty "NoneType", .ty "bool", .ty "int", .ty "str", .ty "tuple", .ty "list", .ty "dict"] ++ CL.map Tg.cls
def T2 (CL : List Str) : List Tg := [.ty "int", .ty "bool", .ty "str", .ty "tuple", .ty "list", .ty "ValueError", .cls "MartError"] ++ CL.map Tg.cls
/-- what the text says of its classes of errors -/
structure KF (CL : List Str) (K : PySem.W.Frag) : Prop where
  isa : ∀ t ∈ T1 CL, ∀ u ∈ T2 CL, PySem.W.kitOne K (t.v K) (u.v K) = some (isT t u)
  exc : ∀ c ∈ CL, ExcC K (He.ga K c)
def tgOf (S : Sto) : D → Option Tg
  | .non => some (.ty "NoneType")
  | .bl _ => some (.ty "bool")
  | .int _ => some (.ty "int")
  | .str _ => some (.ty "str")
  | .tup _ => some (.ty "tuple")
  | .rol _ => some (.ty "list")
  | .ref a => (match S a with
    | some (.lst _) => some (.ty "list")
    | some (.dic _) => some (.ty "dict")
    | some (.exc c none) => some (.cls c)
    | some (.exc c (some d)) => (match S d with
      | some (.xd _) => some (.cls c)
      | _ => none)
    | _ => none)
  | _ => none
def clOf : D → Option Tg
  | .ty n => some (.ty n)
  | .cls c => some (.cls c)
  | _ => none
def clsOf : List D → Option (List Tg)
  | [] => some []
  | d :: r => match clOf d, clsOf r with
    | some t, some ts => some (t :: ts)
    | _, _ => none
def nIsi (CL : List Str) : NL := fun xs S Q => match xs with
  | [x, c] => (match tgOf S x with
    | some t => (match clOf c with
      | some u => (T1 CL).contains t = true ∧ (T2 CL).contains u = true ∧ Q (.bl (isT t u)) S
      | none => match c with
        | .tup cs => (match clsOf cs with
          | some us => (T1 CL).contains t = true ∧ us.all ((T2 CL).contains ·) = true ∧ Q (.bl (us.any (isT t))) S
          | none => False)
        | _ => False)
    | none => False)
  | _ => False
/-- the dict of an exception is held -/
def XdOk (H : Hp) (od : Option Addr) : Prop := ∀ d, od = some d → ∃ fs, H d = some (.xd fs)
/-- isinstance of a caught exception that is held -/
def rIsX (K : PySem.W.Frag) : List V → Hp → VK → Prop := fun xs H Q => ∃ (p C : Addr) (od : Option Addr) (c : V) (cv : Value) (b : Bool), xs = [.ref p, c] ∧ (H p = some (.ext (excP p (.ref C) od)) ∧ XdOk H od) ∧ ExcC K C ∧ (∀ u, RelV c u → u = cv) ∧ PySem.W.kitOne K (.ref C) cv = some b ∧ Q (.bl b) H
theorem kitx_excD {K : PySem.W.Frag} {x D : Addr} {ox : Obj} {od : Option Obj} (C : ExcC K D) : PySem.W.KitX K (.ref x) (.ref D) (fun h => PySem.W.InstAt h x ox D od) :=
  PySem.W.kitx_exc (by obtain ⟨cd, h, _⟩ := PySem.W.any_some C.hd; rw [h]; rfl) C.hg C.hk C.hs C.ha C.hn C.ht C.hm
theorem inst_of {X : Cx} {pins : List (Addr × Obj)} {σ : L2.St} {H : Hp} {s : Shared} {p C : Addr} {od : Option Addr} (I : Inv X pins σ H s) (e : H p = some (.ext (excP p (.ref C) od)) ∧ XdOk H od) : ∃ oe ob, PySem.W.InstAt s.heap p oe C ob := by
  obtain ⟨⟨oe, vs, ha, hz, hd⟩, _, _⟩ := I.hok p _ e.1
  cases od with
  | none =>
    refine ⟨oe, none, ?_⟩
    obtain ⟨oc, od, oda, osl⟩ := oe
    obtain ⟨h4, h5⟩ := hz
    dsimp only at h4 h5 hd
    subst h4 h5 hd
    exact ⟨ha, rfl, rfl, trivial⟩
  | some dd =>
    obtain ⟨fs, hf⟩ := e.2 dd rfl
    have hx : ObjOk X.prog X.w H s.heap dd (.xd fs) := I.hok dd _ hf
    obtain ⟨mA, hns, hr⟩ := hx
    obtain ⟨ob, ho, hl⟩ := lookIn_ns hns
    exact ⟨oe, some ob, ha, hz.1, by unfold PySem.W.notCls; rw [hd] <;> rfl, by rw [hz.2]; exact ho⟩
theorem call_isX : CallR X (.builtin "isinstance") (rIsX X.K) := by
  intro pins s σ H xs us Q I r h
  obtain ⟨p, C, od, c, cv, b, rfl, e, EC, hcv, kb, q⟩ := h
  obtain ⟨u1, u2, rfl, r1, r2⟩ := vals2 r
  cases r1
  have ec := hcv _ r2
  subst ec
  obtain ⟨oe, ob, J⟩ := inst_of I e
  exact PySem.W.kia_one (kitx_excD EC) I.kIn J kb (fun z => nomatch z) fun tk => ⟨.bl b, H, I.kept (t' := tk) fun _ _ z => z, rfl, q⟩
/-- .. for a tuple of classes that was made -/
def rIsXT (K : PySem.W.Frag) : List V → Hp → VK → Prop := fun xs H Q => ∃ (p C tp : Addr) (od : Option Addr) (cs : List V) (us : List Value) (b : Bool), xs = [.ref p, .ref tp] ∧ (H p = some (.ext (excP p (.ref C) od)) ∧ XdOk H od) ∧ ExcC K C ∧ TupR K H tp cs ∧ Paired ClsV cs us ∧ PySem.W.kitAny K (.ref C) us = some b ∧ Q (.bl b) H
theorem call_isXT : CallR X (.builtin "isinstance") (rIsXT X.K) := by
  intro pins s σ H xs us Q I r h
  obtain ⟨p, C, tp, od, cs, ws, b, rfl, e, EC, et, pc, kb, q⟩ := h
  obtain ⟨u1, u2, rfl, r1, r2⟩ := vals2 r
  cases r1; cases r2
  obtain ⟨oe, ob, J⟩ := inst_of I e
  obtain ⟨its, rv, ht, hz⟩ := I.tuple et.sq
  have ei := ClsV.all pc rv
  subst ei
  obtain ⟨ot, g1, g2, n, g3⟩ := ht
  obtain ⟨oc, od, oda, osl⟩ := ot
  dsimp only at g2 g3
  subst g2 g3
  exact PySem.W.kia_tup (kitx_excD EC) I.kIn J g1 kb (fun z => nomatch z) fun tk => ⟨.bl b, H, I.kept (t' := tk) fun _ _ z => z, rfl, q⟩
theorem clOf_ok {K : PySem.W.Frag} {H : Hp} {d : D} {v : V} {u : Tg} (r : VR K H d v) (e : clOf d = some u) : ClsV v (u.v K) := by
  cases r with
  | ty n => cases e; exact .ty n
  | cls c => cases e; exact .own _
  | _ => cases e
theorem clsOf_ok {K : PySem.W.Frag} {H : Hp} : ∀ {ds : List D} {vs : List V} {us : List Tg}, VRs K H ds vs → clsOf ds = some us → Paired ClsV vs (us.map (Tg.v K))
  | _, _, _, .nil, e => by
    simp only [clsOf, Option.some.injEq] at e
    subst e; exact .nil
  | _, _, _, .cons r t, e => by
    simp only [clsOf] at e
    split at e
    · rename_i a b e1 e2
      cases e
      exact .cons (clOf_ok r e1) (clsOf_ok t e2)
    · cases e
theorem kitAny_ok {CL : List Str} {K : PySem.W.Frag} (F : KF CL K) {t : Tg} (ht : t ∈ T1 CL) : ∀ {us : List Tg}, us.all ((T2 CL).contains ·) = true → PySem.W.kitAny K (t.v K) (us.map (Tg.v K)) = some (us.any (isT t))
  | [], _ => kitAny_nil
  | u :: us, h => by
    rw [List.all_cons, Bool.and_eq_true] at h
    rw [List.map_cons, List.any_cons]
    refine kitAny_cons (F.isa t ht u (List.contains_iff_mem.mp h.1)) (fun e => ?_) fun e => by rw [e]; rfl
    rw [e, Bool.false_or]
    exact kitAny_ok F ht h.2
/-- a value's kind, in the layer's words -/
theorem tgOf_ok {K : PySem.W.Frag} {S : Sto} {H : Hp} {x : D} {v : V} {t : Tg} (s : SR K S H) (r : VR K H x v) (e : tgOf S x = some t) : TyX K H v (t.v K) ∨ ∃ p c od, v = .ref p ∧ t = .cls c ∧ H p = some (.ext (excP p (.ref (He.ga K c)) od)) ∧ XdOk H od := by
  cases r with
  | non => cases e; exact .inl (.base .non)
  | bl b => cases e; exact .inl (.base (.bl b))
  | int b => cases e; exact .inl (.base (.int b))
  | str b => cases e; exact .inl (.base (.str b))
  | tup tr _ =>
    cases e
    rcases tr with h | ⟨dd, sl, its, n, h, _⟩
    · exact .inl (.base (.tup h))
    · exact .inl (.kTuple h rfl)
  | rol tr _ =>
    cases e
    rcases tr with ⟨o, h⟩ | ⟨o, its, n, h, hc, _⟩
    · exact .inl (.base (.frz h))
    · exact .inl (.kList h hc)
  | ref p =>
    unfold tgOf at e
    dsimp only at e
    split at e
    · rename_i ds e1
      cases e
      obtain ⟨vs, h1, _⟩ := s.lst e1
      exact .inl (.base (.lst h1))
    · rename_i ds e1
      cases e
      obtain ⟨vs, h1, _⟩ := s.dic e1
      exact .inl (.base (.dK h1))
    · rename_i c e1
      cases e
      exact .inr ⟨p, c, none, rfl, rfl, s p _ e1, fun _ z => nomatch z⟩
    · rename_i c d e1
      split at e
      · rename_i fs e2
        cases e
        obtain ⟨ws, g, _⟩ := s d _ e2
        exact .inr ⟨p, c, some d, rfl, rfl, s p _ e1, fun _ z => by cases z; exact ⟨ws, g⟩⟩
      · cases e
    · cases e
  | ty n => cases e
  | cls n => cases e
theorem isE_mem {CL : List Str} {c : Str} (h : Tg.cls c ∈ T1 CL) : c ∈ CL := by
  unfold T1 at h
  rcases List.mem_append.mp h with h | h
  · simp only [List.mem_cons, List.not_mem_nil, or_false, reduceCtorEq] at h
  · obtain ⟨d, hd, e⟩ := List.mem_map.mp h
    cases e; exact hd
theorem callN_isi {CL : List Str} (F : KF CL X.K) : CallN X (.builtin "isinstance") (nIsi CL) := by
  refine ⟨_, (call_isi.or call_isiT).or ((call_isX.or call_isXT).or call_isiK), fun xs S Q vs H Q' s r n k => ?_⟩
  unfold nIsi at n
  split at n
  · rename_i x c
    obtain ⟨v, w, rfl, rx, rc⟩ := vrs2 r
    split at n
    · rename_i t et
      split at n
      · rename_i u eu
        obtain ⟨n1, n2, n3⟩ := n
        have h1 := List.contains_iff_mem.mp n1
        have kb := F.isa t h1 u (List.contains_iff_mem.mp n2)
        have cv := clOf_ok rc eu
        have q := k _ _ _ _ (.refl H) s (.bl _) n3
        rcases tgOf_ok s rx et with ty | ⟨p, c', od, rfl, rfl, e⟩
        · exact .inl (.inl ⟨v, w, _, _, _, rfl, cv, ty, kb, q⟩)
        · exact .inr (.inl (.inl ⟨p, _, od, w, _, _, rfl, e, F.exc _ (isE_mem h1), fun z rz => cv.eq rz, kb, q⟩))
      · split at n
        · rename_i cs _
          split at n
          · rename_i us eus
            obtain ⟨n1, n2, n3⟩ := n
            have h1 := List.contains_iff_mem.mp n1
            have kb := kitAny_ok F h1 n2
            have q := k _ _ _ _ (.refl H) s (.bl _) n3
            cases rc with
            | tup tr rr =>
              rename_i tp ws
              have cv := clsOf_ok rr eus
              rcases tr with h | ⟨dd, sl, its, m, h, hz, rv⟩
              · rcases tgOf_ok s rx et with ty | ⟨p, c', od, rfl, rfl, e⟩
                · exact .inl (.inr ⟨v, tp, ws, _, _, _, rfl, h, cv, ty, kb, q⟩)
                · exact .inr (.inl (.inr ⟨p, _, tp, od, ws, _, _, rfl, e, F.exc _ (isE_mem h1), .inl h, cv, kb, q⟩))
              · rcases tgOf_ok s rx et with ty | ⟨p, c', od, rfl, rfl, e⟩
                · refine .inr (.inr ⟨v, tp, dd, us.map (Tg.v X.K), m, sl, _, _, rfl, ?_, ty, kb, q⟩)
                  rw [← ClsV.all cv rv]; exact h
                · exact .inr (.inl (.inr ⟨p, _, tp, od, ws, _, _, rfl, e, F.exc _ (isE_mem h1), .inr ⟨dd, sl, its, m, h, hz, rv⟩, cv, kb, q⟩))
          · exact n.elim
        · exact n.elim
    · exact n.elim
  · exact n.elim
end
end N

set_option Elab.async false
set_option linter.all false
set_option maxRecDepth 100000
set_option maxHeartbeats 4000000
namespace N
variable [TabList]
open PySem PySem.Spec PyProof.Rows L2

/-! ### the context of a body -/
structure NX (X : Cx) (H0 : Hp) (w : NW) : Prop where
  tk : Takes X (lW X.K H0 w)
  po : PassesOwn (model X.prog X.w) X.A X.env X.xe
  calm : X.calm = true
  tb : LamX.Tabs TabList.T H0

/-! ### what a def promises -/
abbrev NSp := List D → Sto → NQ → (Str → Option Addr → Sto → Prop) → Prop
def lSp (K : PySem.W.Frag) (n : Nat) (sp : NSp) : Sp := fun vs H Q E => ∃ ds S Q' E', ds.length = n ∧ VRs K H ds vs ∧ SR K S H ∧ LamX.Tabs TabList.T H ∧ sp ds S Q' E' ∧
  (∀ d S' v H', HExt H H' → SR K S' H' → VR K H' d v → Q' d S' → Q v H') ∧ ∀ c d S' H', HExt H H' → SR K S' H' → E' c d S' → E (.ref (He.ga K c)) d H'
theorem lSp.len {K : PySem.W.Frag} {n : Nat} {sp : NSp} {vs : List V} {H : Hp} {Q : VK} {E : XK} (h : lSp K n sp vs H Q E) : vs.length = n := by
  obtain ⟨ds, S, Q', E', h1, h2, _⟩ := h
  rw [← h2.length]; exact h1
/-- what a caller needs of a def: ds the defaults that fill up -/
structure Fn (P : Program) (w : World) (K : PySem.W.Frag) (mg : Str → Option Value) (base : Heap) (k : Nat) (f : Addr) (n : Nat) (sp : NSp) : Prop where
  ex : ∃ fd ps, ps.length = n ∧ FnOk P w K mg base (L2.CX P w) k f fd ps (lSp K n sp) ∧ Binds K fd ps []
  kp : PySem.W.keepIn K (.ref f) = true
section
variable {X : Cx} {H0 : Hp} {w : NW} {a b c o : Expr} {ma mb mo : NE} {pos : Pos} {es : List Expr} {mr : NA} {k n : Nat} {f : Addr} {sp : NSp}
theorem sp_ok (cx : NX X H0 w) {e : Env} {S : Sto} {Q' : NQ} {ds : List D} {vs : List V} {σ : L2.St} {H H1 : Hp} {Q : VK} (A : At X.K H0 H1 σ e S) (x1 : HExt H H1) (rs : VRs X.K H1 ds vs) (hn : ds.length = n) (m : sp ds S Q' fun c d S' => w c d e S')
    (kk : ∀ d S' v H', HExt H H' → SR X.K S' H' → VR X.K H' d v → Q' d S' → Q v H') : lSp X.K n sp vs H1 Q (WE (lW X.K H0 w) σ) :=
  ⟨ds, S, Q', _, hn, rs, A.s, A.x.tab cx.tb, m, fun d S' v H' x s r q => kk d S' v H' (x1.trans x) s r q, fun c d S' H' x s q => ⟨c, e, S', rfl, A.next x s, q⟩⟩
def mCall (n : Nat) (sp : NSp) (w : NW) (mr : NA) : NE := fun e S Q => mr e S fun ds S1 => ds.length = n ∧ sp ds S1 Q fun c d S2 => w c d e S2
theorem je_call {x : Str} {p : Pos} (cx : NX X H0 w) (F : Fn X.prog X.w X.K X.mg X.base k f n sp) (hm : X.mg x = some (.ref f)) (hr : Room k X.A) (ha : JA X H0 (a :: es) mr) (hg : Gl X x := by rfl)
    (hdb : (x == ("__debug__" : Str)) = false := by decide +kernel) (he : starEach (a :: es) X.env = (false, eval a X.env) :: starEach es X.env := by rfl) (hpl : (backTo pos (starEach es X.env)).any (·.1) = false := by rfl) :
    JE X H0 (.Call (.Name x p) (a :: es) [] pos) (mCall n sp w mr) := by
  obtain ⟨fd, ps, h1, h2, h3⟩ := F.ex
  refine (pe_callS h2 hr hg hm F.kp h3 (fun σ => passAt cx.tk σ) ha hdb he hpl).imq fun σ H Q h => ?_
  obtain ⟨e, S, Q', A, m, kk⟩ := h
  exact ⟨e, S, _, A, m, fun ds S1 vs H1 x1 s1 rs q => sp_ok cx (A.next x1 s1) x1 rs q.1 q.2 kk⟩
theorem je_call0 {x : Str} {p : Pos} (cx : NX X H0 w) (F : Fn X.prog X.w X.K X.mg X.base k f 0 sp) (hm : X.mg x = some (.ref f)) (hr : Room k X.A) (hg : Gl X x := by rfl)
    (hdb : (x == ("__debug__" : Str)) = false := by decide +kernel) : JE X H0 (.Call (.Name x p) [] [] pos) (mCall 0 sp w mNil) := by
  obtain ⟨fd, ps, h1, h2, h3⟩ := F.ex
  refine ⟨fun pins s σ H Q I h => ?_⟩
  obtain ⟨e, S, Q', A, m, kk⟩ := h
  refine wpAny_Call_Name_kw (ld_glob I hg hm ?_ hdb)
  refine PySem.W.callWith_K0 I.kIn F.kp (run_fnS (us := []) h2 hr h3 (passAt cx.tk σ) I .nil ?_)
  exact sp_ok cx A (.refl H) .nil m.1 m.2 kk

/-! ### methods: by the instance's class -/
/-- the reading: everything is told at the instance -/
def tMethD (X : Cx) (m : Str) (E : L2.St → XK) (ta : TE) (t : TA) : TE := fun σ H Q => ta σ H fun x H1 => ∃ (p C dx : Addr) (fs : List (Str × V)) (f : Addr) (fd : FuncData) (ps : List Str) (sp : Sp) (k : Nat), x = .ref p ∧ H1 p = some (.ins C dx fs) ∧ fs.lookup m = none ∧
  Cls X.K C ∧ Meth X.K C m f ∧ FnOk X.prog X.w X.K X.mg X.base (L2.CX X.prog X.w) k f fd ps sp ∧ Binds X.K fd ps [] ∧ Room k X.A ∧ t σ H1 fun vs H2 => sp (x :: vs) H2 Q (E σ)
theorem pe_methD {m : Str} {apos : Pos} {E : L2.St → XK} {ta : TE} {t : TA} {pl : Sem Bool} (he : PE X o ta) (hx : ∀ σ, PassesAt (L2.CX X.prog X.w) X σ (E σ)) (ha : PA X (a :: es) t)
    (hst : starEach (a :: es) X.env = (false, eval a X.env) :: starEach es X.env := by rfl) (hpl : (backTo pos (starEach es X.env)).any (·.1) = false := by rfl)
    (ht : eval (.Call (.Attribute o m apos) (a :: es) [] pos) X.env = (do
      let ov ← eval o X.env
      standAt apos.atName
      let (f, first) ← holding [ov] (getMethod ov m pl)
      callWith pos f first (backTo pos (starEach (a :: es) X.env)) (backToKw pos (keywordEach [] X.env))) := by rfl) :
    PE X (.Call (.Attribute o m apos) (a :: es) [] pos) (tMethD X m E ta t) := by
  refine ⟨fun pins s σ H Q I h => ?_⟩
  refine PySem.W.methodCall_KW (pl := pl) (thn (he.run pins s σ H _ I h) fun u s1 ⟨x, H1, I1, rx, p, C, dx, fs, f, fd, ps, sp, k, ex, ea, l, cl, hm, F, hb, hr, q⟩ => ?_) ht
  subst ex
  obtain rfl : u = Value.ref p := rx
  refine getmeth_ok I1 ea cl hm l ?_
  refine PySem.W.callWith_K (first := [.ref p]) (h₀ := X.base) I.ok.mod.kin hm.kp (thn (ha.run pos pins s1 σ H1 _ I1 q) fun us s2 ⟨vs, H2, I2, r, q2⟩ => ⟨I2.kIn, ?_⟩) hst hpl
  exact run_fnS (us := .ref p :: us) (vs := .ref p :: vs) F hr hb (hx σ) I2 (.cons rfl r) q2
theorem pe_methD0 {m : Str} {apos : Pos} {E : L2.St → XK} {ta : TE} {pl : Sem Bool} (he : PE X o ta) (hx : ∀ σ, PassesAt (L2.CX X.prog X.w) X σ (E σ))
    (ht : eval (.Call (.Attribute o m apos) [] [] pos) X.env = (do
      let ov ← eval o X.env
      standAt apos.atName
      let (f, first) ← holding [ov] (getMethod ov m pl)
      callWith pos f first (backTo pos (starEach [] X.env)) (backToKw pos (keywordEach [] X.env))) := by rfl) :
    PE X (.Call (.Attribute o m apos) [] [] pos) (tMethD X m E ta tNil) := by
  refine ⟨fun pins s σ H Q I h => ?_⟩
  refine PySem.W.methodCall_KW (pl := pl) (thn (he.run pins s σ H _ I h) fun u s1 ⟨x, H1, I1, rx, p, C, dx, fs, f, fd, ps, sp, k, ex, ea, l, cl, hm, F, hb, hr, q⟩ => ?_) ht
  subst ex
  obtain rfl : u = Value.ref p := rx
  refine getmeth_ok I1 ea cl hm l ?_
  exact PySem.W.callWith_K0 (first := [.ref p]) I1.kIn hm.kp (run_fnS (us := [.ref p]) (vs := [.ref p]) F hr hb (hx σ) I1 (.cons rfl .nil) q)
/-- which def a method's name means, by the class: the arguments' number (self too), the promise -/
abbrev MT := Str → Option (Nat × NSp)
structure MtOk (X : Cx) (m : Str) (mt : MT) : Prop where
  ok : ∀ c n sp, mt c = some (n, sp) → ∃ f k, Room k X.A ∧ Meth X.K (He.ga X.K c) m f ∧ Fn X.prog X.w X.K X.mg X.base k f n sp
def mMeth (m : Str) (mt : MT) (w : NW) (mo : NE) (mr : NA) : NE := fun e S Q => mo e S fun x S1 => match x with
  | .ref p => (match S1 p with
    | some (.ins c fs) => fs.lookup m = none ∧ (match mt c with
      | some (n, sp) => mr e S1 fun ds S2 => ds.length + 1 = n ∧ sp (.ref p :: ds) S2 Q fun c d S3 => w c d e S3
      | none => False)
    | _ => False)
  | _ => False
theorem meth_ok {m : Str} {mt : MT} (cx : NX X H0 w) (hmt : MtOk X m mt) {t : TA} (ht : ∀ σ H Q, lA X.K H0 mr σ H Q → t σ H Q) {σ : L2.St} {H : Hp} {Q : VK} (h : lE X.K H0 (mMeth m mt w mo mr) σ H Q) :
    tMethD X m (WE (lW X.K H0 w)) (lE X.K H0 mo) t σ H Q := by
  obtain ⟨e, S, Q', A, h, kk⟩ := h
  refine ⟨e, S, _, A, h, fun x S1 vx H1 x1 s1 rx n1 => ?_⟩
  split at n1
  · rename_i p
    cases rx
    split at n1
    · rename_i c fs e1
      obtain ⟨dx, ws, h1, r1, co⟩ := s1.ins e1
      obtain ⟨n1, n2⟩ := n1
      split at n2
      · rename_i n sp emt
        obtain ⟨f, k, hr, hm, F⟩ := hmt.ok c n sp emt
        obtain ⟨fd, ps, h3, h4, h5⟩ := F.ex
        refine ⟨p, _, dx, ws, f, fd, ps, _, k, rfl, h1, (KVR.look (f := m) r1).2 n1, co.cl, hm, h4, h5, hr, ht _ _ _ ?_⟩
        refine ⟨e, S1, _, A.next x1 s1, n2, fun ds S2 vs H2 x2 s2 rs q => ?_⟩
        exact sp_ok cx (A.next (x1.trans x2) s2) (x1.trans x2) (.cons (.ref p) rs) q.1 q.2 kk
      · exact n2.elim
    · exact n1.elim
  · exact n1.elim
theorem je_meth {m : Str} {mt : MT} {apos : Pos} {pl : Sem Bool} (cx : NX X H0 w) (hmt : MtOk X m mt) (he : JE X H0 o mo) (ha : JA X H0 (a :: es) mr)
    (hst : starEach (a :: es) X.env = (false, eval a X.env) :: starEach es X.env := by rfl) (hpl : (backTo pos (starEach es X.env)).any (·.1) = false := by rfl)
    (ht : eval (.Call (.Attribute o m apos) (a :: es) [] pos) X.env = (do
      let ov ← eval o X.env
      standAt apos.atName
      let (f, first) ← holding [ov] (getMethod ov m pl)
      callWith pos f first (backTo pos (starEach (a :: es) X.env)) (backToKw pos (keywordEach [] X.env))) := by rfl) :
    JE X H0 (.Call (.Attribute o m apos) (a :: es) [] pos) (mMeth m mt w mo mr) :=
  (pe_methD (pl := pl) he (fun σ => passAt cx.tk σ) ha hst hpl ht).imq fun _ _ _ h => meth_ok cx hmt (fun _ _ _ h => h) h
theorem je_meth0 {m : Str} {mt : MT} {apos : Pos} {pl : Sem Bool} (cx : NX X H0 w) (hmt : MtOk X m mt) (he : JE X H0 o mo)
    (ht : eval (.Call (.Attribute o m apos) [] [] pos) X.env = (do
      let ov ← eval o X.env
      standAt apos.atName
      let (f, first) ← holding [ov] (getMethod ov m pl)
      callWith pos f first (backTo pos (starEach [] X.env)) (backToKw pos (keywordEach [] X.env))) := by rfl) :
    JE X H0 (.Call (.Attribute o m apos) [] [] pos) (mMeth m mt w mo mNil) :=
  (pe_methD0 (pl := pl) he (fun σ => passAt cx.tk σ) ht).imq fun _ _ _ h => meth_ok cx hmt (fun σ H Q ⟨e, S, Q', A, m, k⟩ => k [] S [] H (.refl H) A.s .nil m) h

/-! ### a new instance -/
theorem run_makeS {C : Addr} {fd : FuncData} {ps : List Str} {sp : Sp} {E : XK} {pins : List (Addr × Obj)} {σ : L2.St} {H : Hp} {s : Shared} {Q : VK} {us : List Value} {vs : List V} (M : Mk X.K C f) (F : FnOk X.prog X.w X.K X.mg X.base (L2.CX X.prog X.w) k f fd ps sp) (hr : Room (k + 1) X.A) (hb : Binds X.K fd ps [])
    (hx : PassesAt (L2.CX X.prog X.w) X σ E) (I : Inv X pins σ H s) (r : Vals vs us)
    (h : ∀ x dx, H x = none → H dx = none → dx ≠ x → sp (.ref x :: vs) (upd (upd H dx (.own x)) x (.ins C dx [])) (fun v H2 => v = .non ∧ Q (.ref x) H2) E) :
    wpAny (model X.prog X.w) X.A (call (.ref C) us) (EP X pins σ Q) X.xe s := by
  have hq := h (s.heap.objs.size + 1) s.heap.objs.size (I.hok.fresh (Nat.le_succ _)) (I.hok.fresh (Nat.le_refl _)) (Nat.ne_of_lt (Nat.lt_succ_self _))
  have I2 := Inv.made (C := C) I
  have r2 : Vals (V.ref (s.heap.objs.size + 1) :: vs) (Value.ref (s.heap.objs.size + 1) :: us) := .cons rfl r
  have hl : (Value.ref (s.heap.objs.size + 1) :: us ++ []).length = ps.length := by
    have e := r2.length
    rw [F.len _ _ _ _ hq] at e
    rw [List.append_nil]
    exact e.symm
  have hbb := hb _ (Value.ref (s.heap.objs.size + 1) :: us) I2.kIn hl
  rw [List.append_nil] at hbb
  refine wpAny_call (make_map (f := f) I.kIn M.makes M.init (beq_iff_eq.mp M.fn) (codeAny_mono (F.run _ X.stack _ _ ⟨Value.ref (s.heap.objs.size + 1) :: us, []⟩ (Value.ref (s.heap.objs.size + 1) :: us) _ _ E (hr.make C us [])
    (I2.env0.make C us []) hbb r2 hq) fun r s' hq' => ?_))
  cases r with
  | error e => exact hx pins _ _ e s' I2 hq'
  | ok fl =>
    cases fl with
    | ret u =>
      obtain ⟨v, H', I3, rv, ev, q3⟩ := I2.after hq'
      subst ev
      exact ⟨rv, ⟨V.ref (s.heap.objs.size + 1), H', I3, rfl, q3⟩⟩
    | next => exact False.elim hq'
    | brk => exact False.elim hq'
    | cont => exact False.elim hq'
def mMake (c : Str) (n : Nat) (sp : NSp) (w : NW) (mr : NA) : NE := fun e S Q => mr e S fun ds S1 => ds.length + 1 = n ∧ ∀ x, S1 x = none → sp (.ref x :: ds) (put S1 x (.ins c [])) (fun v S2 => isNonD v = true ∧ Q (.ref x) S2) fun c d S2 => w c d e S2
theorem make_ok (cx : NX X H0 w) {c : Str} {vs : List V} {ds : List D} {e : Env} {S : Sto} {Q' : NQ} {σ : L2.St} {H H1 : Hp} {Q : VK} (co : ClsOk X.K c) (A : At X.K H0 H1 σ e S) (x1 : HExt H H1) (rs : VRs X.K H1 ds vs) (hn : ds.length + 1 = n)
    (m : ∀ x, S x = none → sp (.ref x :: ds) (put S x (.ins c [])) (fun v S2 => isNonD v = true ∧ Q' (.ref x) S2) fun c d S2 => w c d e S2)
    (kk : ∀ d S' v H', HExt H H' → SR X.K S' H' → VR X.K H' d v → Q' d S' → Q v H') (x dx : Addr) (nx : H1 x = none) (nd : H1 dx = none) (ne : dx ≠ x) :
    lSp X.K n sp (.ref x :: vs) (upd (upd H1 dx (.own x)) x (.ins (He.ga X.K c) dx [])) (fun v H2 => v = .non ∧ Q (.ref x) H2) (WE (lW X.K H0 w) σ) := by
  have nx2 : upd H1 dx (.own x) x = none := by rw [upd_ne (Ne.symm ne)]; exact nx
  have y1 : HExt H1 (upd H1 dx (.own x)) := .new nd
  have y2 : HExt (upd H1 dx (.own x)) (upd (upd H1 dx (.own x)) x (.ins (He.ga X.K c) dx [])) := .new nx2
  have s2 : SR X.K (put S x (.ins c [])) (upd (upd H1 dx (.own x)) x (.ins (He.ga X.K c) dx [])) := (A.s.more nd).put (o := .ins c []) y2 ⟨dx, [], upd_same, .nil, co⟩
  refine ⟨.ref x :: ds, _, _, _, hn, .cons (.ref x) (rs.ext (y1.trans y2)), s2, ((A.x.trans y1).trans y2).tab cx.tb, m x (A.s.fresh nx), fun d S' v H' z s r q => ?_, fun c d S' H' z s q => ?_⟩
  · obtain ⟨q1, q2⟩ := q
    refine ⟨?_, kk _ _ _ _ (((x1.trans y1).trans y2).trans z) s (.ref x) q2⟩
    cases d with
    | non => cases r; rfl
    | _ => cases q1
  · exact ⟨c, e, _, rfl, A.next ((y1.trans y2).trans z) s, q⟩
theorem je_make {c : Str} {p : Pos} (cx : NX X H0 w) (co : ClsOk X.K c) (M : Mk X.K (He.ga X.K c) f) (F : Fn X.prog X.w X.K X.mg X.base k f n sp) (hm : X.mg c = some (.ref (He.ga X.K c))) (hr : Room (k + 1) X.A) (ha : JA X H0 (a :: es) mr) (hg : Gl X c := by rfl)
    (hdb : (c == ("__debug__" : Str)) = false := by decide +kernel) (he : starEach (a :: es) X.env = (false, eval a X.env) :: starEach es X.env := by rfl) (hpl : (backTo pos (starEach es X.env)).any (·.1) = false := by rfl) :
    JE X H0 (.Call (.Name c p) (a :: es) [] pos) (mMake c n sp w mr) := by
  obtain ⟨fd, ps, h1, h2, h3⟩ := F.ex
  refine ⟨fun pins s σ H Q I h => ?_⟩
  obtain ⟨e, S, Q', A, m, kk⟩ := h
  refine wpAny_Call_Name_kw (ld_glob I hg hm ?_ hdb)
  refine PySem.W.callWith_K (h₀ := X.base) I.ok.mod.kin M.kp (thn (ha.run pos pins s σ H _ I ⟨e, S, _, A, m, fun ds S1 vs H1 x1 s1 rs q => (show ∃ ds S1, HExt H H1 ∧ SR X.K S1 H1 ∧ VRs X.K H1 ds vs ∧ _ from ⟨ds, S1, x1, s1, rs, q⟩)⟩) fun us s1 ⟨vs, H1, I1, r, ds, S1, x1, sr1, rs, q⟩ => ⟨I1.kIn, ?_⟩) he hpl
  exact run_makeS M h2 hr h3 (passAt cx.tk σ) I1 r fun x dx nx nd ne => make_ok cx co (A.next x1 sr1) x1 rs q.1 q.2 kk x dx nx nd ne
theorem je_make0 {c : Str} {p : Pos} (cx : NX X H0 w) (co : ClsOk X.K c) (M : Mk X.K (He.ga X.K c) f) (F : Fn X.prog X.w X.K X.mg X.base k f n sp) (hm : X.mg c = some (.ref (He.ga X.K c))) (hr : Room (k + 1) X.A) (hg : Gl X c := by rfl)
    (hdb : (c == ("__debug__" : Str)) = false := by decide +kernel) : JE X H0 (.Call (.Name c p) [] [] pos) (mMake c n sp w mNil) := by
  obtain ⟨fd, ps, h1, h2, h3⟩ := F.ex
  refine ⟨fun pins s σ H Q I h => ?_⟩
  obtain ⟨e, S, Q', A, m, kk⟩ := h
  refine wpAny_Call_Name_kw (ld_glob I hg hm ?_ hdb)
  refine PySem.W.callWith_K0 I.kIn M.kp (run_makeS (us := []) M h2 hr h3 (passAt cx.tk σ) I .nil fun x dx nx nd ne => make_ok cx co A (.refl H) .nil m.1 m.2 kk x dx nx nd ne)

/-! ### a def, by its body -/
def startN : Nat → List D → Env
  | 0, ds => ds.map some
  | n + 1, [] => none :: startN n []
  | n + 1, d :: r => some d :: startN n r
theorem startN_nil (n : Nat) : startN n [] = List.replicate n none := by
  induction n with
  | zero => rfl
  | succ n ih => unfold startN; rw [ih]; rfl
theorem startN_eq : ∀ (n : Nat) (ds : List D), startN n ds = ds.map some ++ List.replicate (n - ds.length) none
  | 0, ds => by unfold startN; simp
  | n + 1, [] => by rw [startN_nil]; simp
  | n + 1, d :: r => by unfold startN; rw [startN_eq n r]; simp
/-- the promise that a body keeps: N its slots' number -/
def spOf (N : Nat) (body : NW → NS) : NSp := fun ds S Q E => body (fun c d _ S' => E c d S') { nx := fun _ S' => Q .non S', rt := Q } (startN N ds) S
theorem fn_body {P : Program} {w : World} {K : PySem.W.Frag} {mg : Str → Option Value} {base : Heap} {x qual : Str} {params : Arguments} {body : List Stmt} {scope : Scope} {f : Addr} {fd : FuncData} {N ps : List Str} {k : Nat} {m : NW → NS}
    (F : FunD K x qual params body scope [] [] f fd) (S : FnScope N ps scope)
    (hb : ∀ (cdv : Value) (A : Around) (outer : List PySem.Env) (s : Shared) (H : Hp) (E : XK) (w' : NW), Room k (A.deeper (envOfC qual scope s.heap.objs.size f cdv)) → NX (cxOf (L2.CX P w) P w K mg base N qual scope f cdv A outer s H E) H w' →
      JSs (cxOf (L2.CX P w) P w K mg base N qual scope f cdv A outer s H E) H body (m w')) :
    FnOk P w K mg base (L2.CX P w) (k + 1) f fd ps (lSp K ps.length (spOf N.length m)) := by
  refine F.ok S (fun vs H Q E h => h.len) (fun cdv A outer s H vs Q E hr h => ?_)
  obtain ⟨ds, S0, Q', E', h1, h2, h3, h3t, h4, h5, h6⟩ := h
  have tk0 : Takes (cxOf (L2.CX P w) P w K mg base N qual scope f cdv A outer s H E) (fun cls d _ H' => E cls d H') := takes_of rfl rfl rfl rfl
  have tk : Takes (cxOf (L2.CX P w) P w K mg base N qual scope f cdv A outer s H E) (lW K H fun c d _ S' => E' c d S') :=
    tk0.imp fun cls d σ H' ⟨c, e, S', ec, A', q⟩ => by
      rw [ec]; exact h6 c d S' H' A'.x A'.s q
  refine ⟨_, hb cdv A outer s H E _ hr ⟨tk, passes_of rfl, rfl, h3t⟩, ?_⟩
  refine ⟨startN N.length ds, S0, _, ⟨.refl H, ?_, h3⟩, h4, ⟨fun e S' σ H' x A' q => h5 _ _ _ _ x A'.s .non q, fun d S' v H' x s r q => h5 _ _ _ _ x s r q, fun _ _ _ _ _ _ q => q, fun _ _ _ _ _ _ q => q⟩⟩
  rw [startN_eq]
  unfold L2.start
  rw [h2.length]
  exact ER.app (ER.some h2) (ER.none _)
end
end N

set_option Elab.async false
set_option linter.all false
set_option maxRecDepth 100000
set_option maxHeartbeats 4000000
namespace N
variable [TabList]
open PySem PySem.Spec PyProof.Rows L2
section
variable {X : Cx} {H0 : Hp} {w : NW} {a b c o : Expr} {ma mb mo : NE} {pos : Pos} {es : List Expr} {mr : NA} {k n : Nat} {f : Addr} {sp : NSp} {st : Stmt} {rest sa sb : List Stmt} {t u : NS} {tc : NT}

/-! ### blocks -/
def sNext : NS := fun D e S => D.nx e S
def sSeq (t u : NS) : NS := fun D e S => t { D with nx := u D } e S
theorem jss_nil : JSs X H0 [] sNext := pss_nil.imq fun D σ H ⟨e, S, D', A, m, k⟩ => k.nx e S σ H (.refl H) A m
theorem jss_one (h : JS X H0 st t) : JSs X H0 [st] t := pss_one h
theorem jss_cons (h1 : JS X H0 st t) (h2 : JSs X H0 rest u) : JSs X H0 (st :: rest) (sSeq t u) :=
  (pss_cons h1 h2).imq fun D σ H ⟨e, S, D', A, m, k⟩ => ⟨e, S, _, A, m, ⟨fun e' S' σ' H' x A' q => ⟨e', S', D', A', q, k.ext x⟩, k.rt, k.bk, k.ct⟩⟩
theorem js_pass : JS X H0 (.Pass pos) sNext := ps_pass.imq fun D σ H ⟨e, S, D', A, m, k⟩ => k.nx e S σ H (.refl H) A m
def sBreak : NS := fun D e S => D.bk e S
def sCont : NS := fun D e S => D.ct e S
theorem js_break : JS X H0 (.Break pos) sBreak := ps_break.imq fun D σ H ⟨e, S, D', A, m, k⟩ => k.bk e S σ H (.refl H) A m
theorem js_continue : JS X H0 (.Continue pos) sCont := ps_continue.imq fun D σ H ⟨e, S, D', A, m, k⟩ => k.ct e S σ H (.refl H) A m
def sDrop (m : NE) : NS := fun D e S => m e S fun _ S1 => D.nx e S1
theorem js_expr (h : JE X H0 a ma) (hs : swapsWith a none pos.line X.env = pure false := by rfl) : JS X H0 (.Expr a pos) (sDrop ma) :=
  (ps_expr h hs).imq fun D σ H ⟨e, S, D', A, m, k⟩ => ⟨e, S, _, A, m, fun d S1 v H1 x s r q => k.nx e S1 σ H1 x (A.next x s) q⟩
def sRet (m : NE) : NS := fun D e S => m e S D.rt
theorem js_ret (h : JE X H0 a ma) : JS X H0 (.Return (some a) pos) (sRet ma) :=
  (ps_ret h).imq fun D σ H ⟨e, S, D', A, m, k⟩ => ⟨e, S, _, A, m, fun d S1 v H1 x s r q => k.rt d S1 v H1 x s r q⟩
def sIf (c : NT) (t u : NS) : NS := fun D e S => c e S fun b S1 => match b with
  | true => t D e S1
  | false => u D e S1
theorem js_if (hc : JT X H0 c tc) (ha : JSs X H0 sa t) (hb : JSs X H0 sb u) : JS X H0 (.If c sa sb pos) (sIf tc t u) :=
  (ps_if hc ha hb).imq fun D σ H ⟨e, S, D', A, m, k⟩ => ⟨e, S, _, A, m, fun b S1 H1 x s q => by
    cases b with
    | true => exact iteT ⟨e, S1, D', A.next x s, q, k.ext x⟩
    | false => exact iteF ⟨e, S1, D', A.next x s, q, k.ext x⟩⟩

/-! ### targets -/
abbrev NG := D → Env → Sto → (Env → Sto → Prop) → Prop
abbrev NGs := List D → Env → Sto → (Env → Sto → Prop) → Prop
section
variable (K : PySem.W.Frag) (H0 : Hp)
def lG (m : NG) : TG := fun v σ H Q => ∃ d e S Q', VR K H d v ∧ At K H0 H σ e S ∧ m d e S Q' ∧ ∀ e' S' σ' H', HExt H H' → At K H0 H' σ' e' S' → Q' e' S' → Q σ' H'
def lGs (m : NGs) : TGs := fun vs σ H Q => ∃ ds e S Q', VRs K H ds vs ∧ At K H0 H σ e S ∧ m ds e S Q' ∧ ∀ e' S' σ' H', HExt H H' → At K H0 H' σ' e' S' → Q' e' S' → Q σ' H'
end
theorem _root_.L2.PG.imq {e : Expr} {t t' : TG} (h : PG X e t) (i : ∀ v σ H Q, t' v σ H Q → t v σ H Q) : PG X e t' := ⟨fun pins s σ H v u Q I r q => h.run pins s σ H v u Q I r (i _ _ _ _ q)⟩
theorem _root_.L2.PGs.imq {e : List Expr} {t t' : TGs} (h : PGs X e t) (i : ∀ v σ H Q, t' v σ H Q → t v σ H Q) : PGs X e t' := ⟨fun pins s σ H v u Q I r q => h.run pins s σ H v u Q I r (i _ _ _ _ q)⟩
abbrev JG (X : Cx) (H0 : Hp) (e : Expr) (m : NG) : Prop := PG X e (lG X.K H0 m)
abbrev JGs (X : Cx) (H0 : Hp) (e : List Expr) (m : NGs) : Prop := PGs X e (lGs X.K H0 m)
theorem At.set {K : PySem.W.Frag} {H : Hp} {σ : L2.St} {e : Env} {S : Sto} {d : D} {v : V} (A : At K H0 H σ e S) (r : VR K H d v) (i : Nat) : At K H0 H (σ.set i (some v)) (e.set i (some d)) S := ⟨A.x, A.e.set r i, A.s⟩
def gNm (i : Nat) : NG := fun d e S Q => Q (e.set i (some d)) S
theorem jg_name {i : Nat} {x : Str} (hN : X.N.Nodup) (hi : X.N[i]? = some x := by rfl) (hx : Loc X.env.scope x := by first | exact Or.inl rfl | exact Or.inr rfl) (hf : X.fn x = true ∨ X.env.scope.names.lookup x = some .local := by first | exact .inl rfl | exact .inr rfl) : JG X H0 (.Name x pos) (gNm i) :=
  (pg_name hN hi hx hf).imq fun v σ H Q ⟨d, e, S, Q', r, A, m, k⟩ => k _ _ _ _ (.refl H) (A.set r i) m
def gsNil : NGs := fun ds e S Q => match ds with
  | [] => Q e S
  | _ => False
def gsCons (t : NG) (u : NGs) : NGs := fun ds e S Q => match ds with
  | d :: r => t d e S fun e1 S1 => u r e1 S1 Q
  | [] => False
theorem jgs_nil : JGs X H0 [] gsNil := pgs_nil.imq fun v σ H Q ⟨ds, e, S, Q', r, A, m, k⟩ => by
  cases r with
  | nil => exact ⟨rfl, k _ _ _ _ (.refl H) A m⟩
  | cons _ _ => exact m.elim
theorem jgs_cons {t : NG} {u : NGs} (h1 : JG X H0 a t) (h2 : JGs X H0 es u) (hs : (assignEach (a :: es) X.env).map (·.2) = assign a X.env :: (assignEach es X.env).map (·.2) := by rfl) : JGs X H0 (a :: es) (gsCons t u) :=
  (pgs_cons h1 h2 hs).imq fun vs σ H Q ⟨ds, e, S, Q', r, A, m, k⟩ => by
    cases r with
    | nil => exact m.elim
    | cons r rr => exact ⟨_, _, rfl, _, e, S, _, r, A, m, fun e1 S1 σ1 H1 x A1 m1 => ⟨_, e1, S1, Q', rr.ext x, A1, m1, fun e2 S2 σ2 H2 x2 A2 q => k e2 S2 σ2 H2 (x.trans x2) A2 q⟩⟩
/-- (a, b, ..) = a tuple of that length -/
def gTp (n : Nat) (t : NGs) : NG := fun d e S Q => match d with
  | .tup ds => ds.length = n ∧ t ds e S Q
  | _ => False
theorem jg_tup {k n : Nat} {t : NGs} (cx : NX X H0 w) (h : JGs X H0 es t) (hn : (assignEach es X.env).length = n := by rfl) (hst : (assignEach es X.env).findIdx? (·.1) = none := by rfl) : JG X H0 (.Tuple es k pos) (gTp n t) :=
  (pg_tup cx.calm h hn hst).imq fun v σ H Q ⟨d, e, S, Q', r, A, m, k⟩ => by
    unfold gTp at m
    split at m
    · rename_i ds
      cases r with
      | tup tr rr => exact ⟨_, _, rfl, tr.sq, by rw [← rr.length]; exact m.1, ds, e, S, Q', rr, A, m.2, k⟩
    · exact m.elim
def sAsg (m : NE) (g : NG) : NS := fun D e S => m e S fun d S1 => g d e S1 D.nx
theorem js_asg {tg : Expr} {g : NG} (he : JE X H0 a ma) (hg : JG X H0 tg g) (hs : swapsWithSole [tg] a pos.line X.env = pure false := by rfl) (hw : swappedStores [tg] a X.env = pure none := by rfl)
    (h1 : (assignEach [tg] X.env).map (·.2) = [assign tg X.env] := by rfl) : JS X H0 (.Assign [tg] a pos) (sAsg ma g) :=
  (ps_asg he hg hs hw h1).imq fun D σ H ⟨e, S, D', A, m, k⟩ => ⟨e, S, _, A, m, fun d S1 v H1 x s r q =>
    ⟨d, e, S1, _, r, A.next x s, q, fun e2 S2 σ2 H2 x2 A2 q2 => k.nx e2 S2 σ2 H2 (x.trans x2) A2 q2⟩⟩
def sSet (i : Nat) (m : NE) : NS := fun D e S => m e S fun d S1 => D.nx (e.set i (some d)) S1
theorem js_set {i : Nat} {x : Str} {pos' : Pos} (hN : X.N.Nodup) (he : JE X H0 a ma) (hi : X.N[i]? = some x := by rfl) (hx : Loc X.env.scope x := by first | exact Or.inl rfl | exact Or.inr rfl) (hs : swapsWith a (some (.Name x pos')) pos.line X.env = pure false := by rfl) (hf : X.fn x = true ∨ X.env.scope.names.lookup x = some .local := by first | exact .inl rfl | exact .inr rfl) :
    JS X H0 (.Assign [.Name x pos'] a pos) (sSet i ma) :=
  (ps_set hN hi hx he hs hf).imq fun D σ H ⟨e, S, D', A, m, k⟩ => ⟨e, S, _, A, m, fun d S1 v H1 x s r q => k.nx _ _ _ _ x ((A.next x s).set r i) q⟩

/-! ### o[i] = v -/
def dput (kvs : List (Key × D)) (k : Key) (v : D) : List (Key × D) :=
  if kvs.any (fun kv => decide (kv.1 = k)) then kvs.map (fun kv => if kv.1 = k then (kv.1, v) else kv) else kvs ++ [(k, v)]
def nSet : D → D → D → Sto → (Sto → Prop) → Prop := fun o i v S Q => match o with
  | .ref p => (match S p with
    | some (.lst ds) => (match i with
      | .int j => (match ixN ds.length j with
        | some k => Q (put S p (.lst (ds.set k v)))
        | none => False)
      | _ => False)
    | some (.dic kvs) => (match keyD i with
      | some k => kvs.length < sizeLine ∧ Q (put S p (.dic (dput kvs k v)))
      | none => False)
    | _ => False)
  | _ => False
def Set3 (K : PySem.W.Frag) (t : TSet) : Prop := ∀ (o i d : D) S Q vo vi v H Q', SR K S H → VR K H o vo → VR K H i vi → VR K H d v → nSet o i d S Q → (∀ S' H', HExt H H' → SR K S' H' → Q S' → Q' H') → t vo vi v H Q'
theorem pset_or {t t' : TSet} (h : PSet X t) (h' : PSet X t') : PSet X (fun o i v H Q => t o i v H Q ∨ t' o i v H Q) := by
  intro pins s σ H o i v ov iv u Q I ro ri rv q
  rcases q with q | q
  · exact h pins s σ H o i v ov iv u Q I ro ri rv q
  · exact h' pins s σ H o i v ov iv u Q I ro ri rv q
theorem dput_ok {K : PySem.W.Frag} {H : Hp} {kvs : List (Key × D)} {ws : List (Key × V)} (r : KVR K H kvs ws) (k : Key) {d : D} {v : V} (rd : VR K H d v) : KVR K H (dput kvs k d) (putK ws k v) := by
  have hany : kvs.any (fun kv => decide (kv.1 = k)) = ws.any (fun kv => decide (kv.1 = k)) := by
    clear rd
    have : ∀ {kvs : List (Key × D)} {ws : List (Key × V)}, KVR K H kvs ws → kvs.any (fun kv => decide (kv.1 = k)) = ws.any (fun kv => decide (kv.1 = k)) := by
      intro kvs ws r
      induction r with
      | nil => rfl
      | cons h t ih => rw [List.any_cons, List.any_cons, ih, h.1]
    exact this r
  unfold dput putK
  rw [hany]
  split
  · have : ∀ {kvs : List (Key × D)} {ws : List (Key × V)}, KVR K H kvs ws → KVR K H (kvs.map fun kv => if kv.1 = k then (kv.1, d) else kv) (ws.map fun kv => if kv.1 = k then (kv.1, v) else kv) := by
      intro kvs ws r
      induction r with
      | nil => exact .nil
      | cons h t ih =>
        rw [List.map_cons, List.map_cons]
        refine .cons ?_ ih
        rename_i p q ps qs
        by_cases e : p.1 = k
        · rw [if_pos e, if_pos (h.1 ▸ e)]; exact ⟨h.1, rd⟩
        · rw [if_neg e, if_neg (fun z => e (h.1.trans z))]; exact h
    exact this r
  · have : ∀ {kvs : List (Key × D)} {ws : List (Key × V)}, KVR K H kvs ws → KVR K H (kvs ++ [(k, d)]) (ws ++ [(k, v)]) := by
      intro kvs ws r
      induction r with
      | nil => exact .cons ⟨rfl, rd⟩ .nil
      | cons h t ih => exact .cons h ih
    exact this r
theorem setN (hu : X.A.units + 1 < cLine) : ∃ t, PSet X t ∧ Set3 X.K t := by
  refine ⟨_, pset_or set_list (set_dict hu), fun o i d S Q vo vi v H Q' s ro ri rv n k => ?_⟩
  unfold nSet at n
  split at n
  · rename_i p
    cases ro
    split at n
    · rename_i ds e1
      split at n
      · rename_i j
        cases ri
        split at n
        · rename_i q eq
          obtain ⟨vs, h1, r1⟩ := s.lst e1
          have x : HExt H (upd H p (.lst (vs.set q v))) := .upd h1 True.intro
          refine .inl ⟨p, vs, j, q, rfl, rfl, h1, by rw [← r1.length]; exact eq, ?_⟩
          exact k _ _ x (s.put (o := .lst (ds.set q d)) x ⟨_, upd_same, (r1.set rv q).ext x⟩) n
        · exact n.elim
      · exact n.elim
    · rename_i kvs e1
      split at n
      · rename_i kk ek
        have := keyD_ok ri ek
        subst this
        obtain ⟨ws, h1, r1⟩ := s.dic e1
        have x : HExt H (upd H p (.dK (putK ws kk v))) := .upd h1 True.intro
        refine .inr ⟨p, _, rfl, .k h1 (by rw [← Paired.length r1]; exact n.1), ?_⟩
        exact k _ _ x (s.put (o := .dic (dput kvs kk d)) x ⟨_, upd_same, KVR.ext x (dput_ok r1 kk rv)⟩) n.2
      · exact n.elim
    · exact n.elim
  · exact n.elim
def gIx (mo mi : NE) : NG := fun d e S Q => mo e S fun x S1 => mi e S1 fun i S2 => nSet x i d S2 fun S3 => Q e S3
theorem jg_ix {i : Expr} {mi : NE} (hu : X.A.units + 1 < cLine) (ho : JE X H0 o mo) (hi : JE X H0 i mi)
    (ha : ∀ v, assign (.Subscript o i pos) X.env v = (do
      let ov ← holding [v] (eval o X.env)
      let iv ← holding [v, ov] (eval i X.env)
      standAt pos
      holding [v, ov, iv] (setItem ov iv v)
      release [v, ov, iv] []) := by intro _; rfl) : JG X H0 (.Subscript o i pos) (gIx mo mi) := by
  obtain ⟨t, h1, h2⟩ := setN (X := X) hu
  refine (pg_sub ho hi h1 ha).imq fun v σ H Q ⟨d, e, S, Q', r, A, m, k⟩ => ?_
  refine ⟨e, S, _, A, m, fun x S1 vx H1 x1 s1 rx m1 => ⟨e, S1, _, A.next x1 s1, m1, fun y S2 vy H2 x2 s2 ry m2 => ?_⟩⟩
  exact h2 x y d S2 _ vx vy v H2 _ s2 (rx.ext x2) ry ((r.ext x1).ext x2) m2 fun S3 H3 x3 s3 q => k e S3 σ H3 ((x1.trans x2).trans x3) (A.next ((x1.trans x2).trans x3) s3) q

/-! ### op= -/
def sAug (i : Nat) (m : NE) (n : N2) : NS := fun D e S => match nth e i with
  | some x => m e S fun y S1 => n x y S1 fun z S2 => D.nx (e.set i (some z)) S2
  | none => False
theorem js_aug {i : Nat} {x : Str} {op : Operator} {n : N2} {pos' : Pos} (hN : X.N.Nodup) (hn : OpN X (inplaceOp op) n) (he : JE X H0 a ma) (hi : X.N[i]? = some x := by rfl) (hx : Loc X.env.scope x := by first | exact Or.inl rfl | exact Or.inr rfl) (hf : X.fn x = true ∨ X.env.scope.names.lookup x = some .local := by first | exact .inl rfl | exact .inr rfl) :
    JS X H0 (.AugAssign (.Name x pos') op a pos) (sAug i ma n) := by
  obtain ⟨r, h1, h2⟩ := hn
  refine (ps_aug hN hi hx he (ti := r) h1 hf).imq fun D σ H ⟨e, S, D', A, m, k⟩ => ?_
  unfold sAug at m
  split at m
  · rename_i d ed
    obtain ⟨v, g1, g2⟩ := A.e.get (nth_get ed)
    refine ⟨v, g1, e, S, _, A, m, fun y S1 vy H1 x1 s1 ry m1 => ?_⟩
    exact h2 d y S1 _ v vy H1 _ s1 (g2.ext x1) ry m1 fun z S2 vz H2 x2 s2 rz q => k.nx _ _ _ _ (x1.trans x2) ((A.next (x1.trans x2) s2).set rz i) q
  · exact m.elim
/-- += : ints, texts, a list by a list -/
def nAdd' : N2 := fun x y S Q => match x, y with
  | .int i, .int j => Q (.int (i + j)) S
  | .str a, .str b => a.length + b.length ≤ sizeLine ∧ Q (.str (a ++ b)) S
  | .ref a, .ref b => (match S a, S b with
    | some (.lst xs), some (.lst ys) => xs.length + ys.length ≤ sizeLine ∧ Q (.ref a) (put S a (.lst (xs ++ ys)))
    | _, _ => False)
  | _, _ => False
theorem iopN_add : OpN X (inplaceOp .Add) nAdd' := ⟨_, iop_add.or (iop_add_str.or iop_ext), fun x y S Q vx vy H Q' s rx ry n k => by
  unfold nAdd' at n
  split at n
  · cases rx; cases ry
    exact .inl ⟨_, _, rfl, rfl, k _ _ _ _ (.refl H) s (.int _) n⟩
  · cases rx; cases ry
    exact .inr (.inl ⟨_, _, rfl, rfl, n.1, k _ _ _ _ (.refl H) s (.str _) n.2⟩)
  · rename_i a b
    cases rx; cases ry
    split at n
    · rename_i xs ys e1 e2
      obtain ⟨vs, h1, r1⟩ := s.lst e1
      obtain ⟨ws, h2, r2⟩ := s.lst e2
      have x : HExt H (upd H a (.lst (vs ++ ws))) := .upd h1 True.intro
      exact .inr (.inr ⟨a, b, vs, ws, rfl, rfl, h1, h2, by rw [← r1.length, ← r2.length]; exact n.1, k _ _ _ _ x (s.put (o := .lst (xs ++ ys)) x ⟨_, upd_same, (r1.append r2).ext x⟩) (.ref a) n.2⟩)
    · exact n.elim
  · exact n.elim⟩
theorem iopN_sub : OpN X (inplaceOp .Sub) nSub := opN_int0 iop_sub fun _ _ _ => .int _
end
end N

set_option Elab.async false
set_option linter.all false
set_option maxRecDepth 100000
set_option maxHeartbeats 4000000
namespace N
variable [TabList]
open PySem PySem.Spec PyProof.Rows L2
section
variable {X : Cx} {H0 : Hp} {w : NW} {a b c o : Expr} {ma mb mo : NE} {pos : Pos} {es : List Expr} {mr : NA} {k n : Nat} {f : Addr} {sp : NSp} {st : Stmt} {rest sa sb body : List Stmt} {t u : NS} {tc : NT}

/-! ### o[i] op= e -/
theorem get_list : PGet X (fun x y H Q => ∃ p xs i v, x = .ref p ∧ y = .int i ∧ H p = some (.lst xs) ∧ 0 ≤ i ∧ xs[i.toNat]? = some v ∧ Q v H) := by
  intro pins s σ H o i ov iv Q I ro ri h
  obtain ⟨p, xs, j, v, rfl, rfl, e, h0, hx, q⟩ := h
  cases ro
  obtain ⟨t, rfl⟩ := ri
  obtain ⟨its, r, pl, hz⟩ := I.list (SqL.of e)
  obtain ⟨u, hu, ru⟩ := r.get hx
  have hj : j.toNat < xs.length := (List.getElem?_eq_some_iff.mp hx).1
  have hl := line63
  exact wpAny_getItem_list pl.isList h0 (by omega) (by simpa using hu) ⟨v, H, I, ru, q⟩
theorem get_dict (hu : X.A.units + 1 < cLine) : PGet X (fun x y H Q => ∃ p v, x = .ref p ∧ DGet H p y (some v) ∧ Q v H) := by
  intro pins s σ H o i ov iv Q I ro ri h
  obtain ⟨p, v, rfl, g, q⟩ := h
  cases ro
  exact d_getItem hu I g ri fun w' s' I' r' => ⟨v, H, I', r', q⟩
theorem pget_or {t t' : V → V → Hp → VK → Prop} (h : PGet X t) (h' : PGet X t') : PGet X (fun x y H Q => t x y H Q ∨ t' x y H Q) := by
  intro pins s σ H o i ov iv Q I ro ri q
  rcases q with q | q
  · exact h pins s σ H o i ov iv Q I ro ri q
  · exact h' pins s σ H o i ov iv Q I ro ri q
def nGet : N2 := fun x y S Q => match x with
  | .ref p => (match S p with
    | some (.lst ds) => (match y with
      | .int i => 0 ≤ i ∧ (match ds[i.toNat]? with
        | some d => Q d S
        | none => False)
      | _ => False)
    | some (.dic kvs) => (match keyD y with
      | some k => (match dget kvs k with
        | some d => Q d S
        | none => False)
      | none => False)
    | _ => False)
  | _ => False
theorem getN (hu : X.A.units + 1 < cLine) : ∃ t, PGet X t ∧ Op2 X.K t nGet := by
  refine ⟨_, pget_or get_list (get_dict hu), fun x y S Q vx vy H Q' s rx ry n k => ?_⟩
  unfold nGet at n
  split at n
  · rename_i p
    cases rx
    split at n
    · rename_i ds e1
      split at n
      · rename_i i
        cases ry
        obtain ⟨h0, n⟩ := n
        split at n
        · rename_i d ed
          obtain ⟨vs, h1, r1⟩ := s.lst e1
          obtain ⟨v, h2, h3⟩ := r1.get ed
          exact .inl ⟨p, vs, i, v, rfl, rfl, h1, h0, h2, k _ _ _ _ (.refl H) s h3 n⟩
        · exact n.elim
      · exact n.elim
    · rename_i kvs e1
      split at n
      · rename_i kk ek
        have := keyD_ok ry ek
        subst this
        split at n
        · rename_i d ed
          obtain ⟨ws, h1, r1⟩ := s.dic e1
          obtain ⟨v, h2, h3⟩ := (KVR.val kk r1).1 d ed
          exact .inr ⟨p, v, rfl, by rw [← h2]; exact .k h1, k _ _ _ _ (.refl H) s h3 n⟩
        · exact n.elim
      · exact n.elim
    · exact n.elim
  · exact n.elim
def sAugS (mo mi : NE) (m : NE) (n : N2) : NS := fun D e S => mo e S fun x S1 => mi e S1 fun i S2 => nGet x i S2 fun y S3 => m e S3 fun z S4 => n y z S4 fun r S5 => nSet x i r S5 fun S6 => D.nx e S6
theorem js_augS {i : Expr} {mi : NE} {op : Operator} {n : N2} {tpos : Pos} (hu : X.A.units + 1 < cLine) (hn : OpN X (inplaceOp op) n) (ho : JE X H0 o mo) (hi : JE X H0 i mi) (he : JE X H0 a ma)
    (ha : ∀ ov iv new, augStore i ov iv new = (do holding [new, ov, iv] (setItem ov iv new); release [new, ov, iv] []; pure .next) := by intros; rfl) : JS X H0 (.AugAssign (.Subscript o i tpos) op a pos) (sAugS mo mi ma n) := by
  obtain ⟨r, h1, h2⟩ := hn
  obtain ⟨tg, g1, g2⟩ := getN (X := X) hu
  obtain ⟨ts, s1, s2⟩ := setN (X := X) hu
  refine (ps_augS ho hi g1 he (tip := r) h1 s1 ha).imq fun D σ H ⟨e, S, D', A, m, k⟩ => ?_
  refine ⟨e, S, _, A, m, fun x S1 vx H1 x1 z1 rx m1 => ⟨e, S1, _, A.next x1 z1, m1, fun y S2 vy H2 x2 z2 ry m2 => ?_⟩⟩
  refine g2 x y S2 _ vx vy H2 _ z2 (rx.ext x2) ry m2 fun d S3 vd H3 x3 z3 rd m3 => ?_
  have y3 := (x1.trans x2).trans x3
  refine ⟨e, S3, _, A.next y3 z3, m3, fun q S4 vq H4 x4 z4 rq m4 => ?_⟩
  refine h2 d q S4 _ vd vq H4 _ z4 (rd.ext x4) rq m4 fun nw S5 vn H5 x5 z5 rn m5 => ?_
  refine s2 x y nw S5 _ vx vy vn H5 _ z5 ((((rx.ext x2).ext x3).ext x4).ext x5) (((ry.ext x3).ext x4).ext x5) rn m5 fun S6 H6 x6 z6 q6 => ?_
  have y6 := ((y3.trans x4).trans x5).trans x6
  exact k.nx e S6 σ H6 y6 (A.next y6 z6) q6

/-! ### for -/
/-- how what is walked is held meanwhile -/
abbrev Keep := Sto → Prop
def loopL (g : NG) (b : NS) (Z : NEnds) (kp : Keep) : List D → Env → Sto → Prop
  | [], e, S => Z.nx e S
  | x :: xs, e, S => g x e S fun e1 S1 => b { nx := fun e2 S2 => kp S2 ∧ loopL g b Z kp xs e2 S2, ct := fun e2 S2 => kp S2 ∧ loopL g b Z kp xs e2 S2, bk := Z.nx, rt := Z.rt } e1 S1
def iSeq (K : PySem.W.Frag) (tl : TE) : TI := fun σ H R => tl σ H fun x H1 => ∃ p, x = .ref p ∧ (((∃ xs, SqL K H1 p xs) ∧ R (Itl K p) H1) ∨ ((∃ xs, SqT K H1 p xs) ∧ R (Itt K p) H1))
theorem pi_seq {tg l : Expr} {tl : TE} (hl : PE X l tl) : PI X tg l (iSeq X.K tl) := by
  refine ⟨fun pins s σ H R I h => ?_⟩
  refine thn (hl.run pins s σ H _ I h) fun v s1 ⟨x, H1, I1, r1, q1⟩ => ?_
  obtain ⟨p, e, ⟨⟨xs, hq⟩, q⟩ | ⟨⟨xs, hq⟩, q⟩⟩ := q1
  · subst e
    cases r1
    obtain ⟨its, rv, p, hz⟩ := I1.list hq
    refine wpAny_pyIter_list p.isList ?_
    refine ⟨s1.heap.objs.size, [s1.heap.objs.size], _, _, H1, rfl, I1.kept (t' := s1.toks) fun b o e => Heap.get?_push_of_some _ e, turn_list _ _, ⟨_, Heap.get?_push_size _ rfl, rfl, rfl⟩, fun b hb => ?_, q⟩
    have e : b = s1.heap.objs.size := by simpa using hb
    subst e
    exact I1.fpOk (Nat.le_refl _) (I1.hok.fresh (Nat.le_refl _))
  · subst e
    cases r1
    obtain ⟨its, rv, p, hz⟩ := I1.tuple hq
    refine wpAny_pyIter_tuple (show s1.heap.IsTuple _ its.toArray from p) ?_
    refine ⟨s1.heap.objs.size, [s1.heap.objs.size], _, _, H1, rfl, I1.kept (t' := s1.toks) fun b o e => Heap.get?_push_of_some _ e, turn_tuple _ _, ⟨_, Heap.get?_push_size _ rfl, rfl, rfl⟩, fun b hb => ?_, q⟩
    have e : b = s1.heap.objs.size := by simpa using hb
    subst e
    exact I1.fpOk (Nat.le_refl _) (I1.hok.fresh (Nat.le_refl _))
/-- what is walked: its items, and that it stands still -/
def nWalk : D → Sto → (List D → Keep → Prop) → Prop := fun x S Q => match x with
  | .tup ds => Q ds fun _ => True
  | .rol ds => Q ds fun _ => True
  | .ref p => (match S p with
    | some (.lst ds) => Q ds fun S' => S' p = some (.lst ds)
    | _ => False)
  | _ => False
def sFor (m : NE) (g : NG) (b : NS) : NS := fun D e S => m e S fun x S1 => nWalk x S1 fun ds kp => loopL g b D kp ds e S1
/-- the layer's word for a loop that stands on loopL: R tells that the walked thing is there -/
theorem loop_ok {J : It} {K : PySem.W.Frag} {g : NG} {b : NS} {D' : NEnds} {Z : Ends} {kp : Keep} {ds : List D} {H1 : Hp} {σ : L2.St} {e : Env} {S1 : Sto} (k : EndsR K H0 H1 D' Z)
    (stop : ∀ H S, HExt H1 H → SR K S H → kp S → J.stop ds.length H) (go : ∀ i H S, i < ds.length → HExt H1 H → SR K S H → kp S → J.go i H)
    (yld : ∀ i H S x H' d, ds[i]? = some d → HExt H1 H → SR K S H → kp S → J.yld i H x H' → ∃ S', HExt H H' ∧ SR K S' H' ∧ (∀ a o, S a = some o → S' a = some o) ∧ S' = S ∧ VR K H' d x)
    (A : At K H0 H1 σ e S1) (hk : kp S1) (m : loopL g b D' kp ds e S1) :
    ∃ W : Nat → Nat → L2.St → Hp → Prop, (∃ m, W 0 m σ H1) ∧ ∀ i m σ H, W i m σ H →
      (J.stop i H ∧ Z.nx σ H) ∨ (J.go i H ∧ ∃ N : L2.St → Hp → Prop, (∀ σ' H', N σ' H' → ∃ m', m' < m ∧ W (i + 1) m' σ' H') ∧ ∀ x H', J.yld i H x H' → (lG K H0 g) x σ H' fun σ2 H2 => (lS K H0 b) { Z with nx := N, ct := N, bk := Z.nx } σ2 H2) := by
  refine ⟨fun i m σ H => m = ds.length - i ∧ i ≤ ds.length ∧ HExt H1 H ∧ ∃ e S, At K H0 H σ e S ∧ kp S ∧ loopL g b D' kp (ds.drop i) e S, ⟨_, rfl, Nat.zero_le _, .refl H1, e, S1, A, hk, by simpa using m⟩, ?_⟩
  rintro i m σ H ⟨rfl, hi, xe, e, S, A, hk, m⟩
  by_cases hlt : i < ds.length
  · obtain ⟨d, hd⟩ : ∃ d, ds[i]? = some d := ⟨ds[i], by simp [hlt]⟩
    have hdrop : ds.drop i = d :: ds.drop (i + 1) := by
      have := List.drop_eq_getElem_cons hlt
      rw [this]
      have : ds[i] = d := by
        have := List.getElem?_eq_getElem hlt
        rw [hd] at this
        exact (Option.some.inj this).symm
      rw [this]
    rw [hdrop] at m
    refine .inr ⟨go i H S hlt xe A.s hk, fun σ' H' => i + 1 ≤ ds.length ∧ HExt H1 H' ∧ ∃ e S, At K H0 H' σ' e S ∧ kp S ∧ loopL g b D' kp (ds.drop (i + 1)) e S, fun σ' H' ⟨p1, p2, p3⟩ => ⟨ds.length - (i + 1), by omega, rfl, p1, p2, p3⟩, fun x H' y => ?_⟩
    obtain ⟨S', x2, s2, _, rfl, rd⟩ := yld i H S x H' d hd xe A.s hk y
    refine ⟨d, e, S', _, rd, A.next x2 s2, m, fun e1 S2 σ1 H2 x3 A1 q => ?_⟩
    have xx := (xe.trans x2).trans x3
    exact ⟨e1, S2, _, A1, q, ⟨fun e3 S3 σ3 H3 x4 A3 q3 => ⟨hlt, xx.trans x4, e3, S3, A3, q3.1, q3.2⟩, fun d S3 v H3 x4 s3 rv q3 => k.rt d S3 v H3 (xx.trans x4) s3 rv q3, fun e3 S3 σ3 H3 x4 A3 q3 => k.nx e3 S3 σ3 H3 (xx.trans x4) A3 q3,
      fun e3 S3 σ3 H3 x4 A3 q3 => ⟨hlt, xx.trans x4, e3, S3, A3, q3.1, q3.2⟩⟩⟩
  · have e1 : i = ds.length := by omega
    subst e1
    rw [List.drop_length] at m
    exact .inl ⟨stop H S xe A.s hk, k.nx e S σ H xe A m⟩
theorem js_for {tg : Expr} {g : NG} (cx : NX X H0 w) (hl : JE X H0 a ma) (hg : JG X H0 tg g) (hb : JSs X H0 body t) (hs : ∀ x, foldedSetIterable a X.env x = pure x := by intro _; rfl) : JS X H0 (.For tg a body [] pos) (sFor ma g t) := by
  refine (ps_for cx.po cx.calm (pi_seq hl) hg hb hs).imq fun D σ H ⟨e, S, D', A, m, k⟩ => ?_
  refine ⟨e, S, _, A, m, fun x S1 v H1 x1 s1 r m1 => ?_⟩
  have A1 := A.next x1 s1
  have k1 := k.ext x1
  unfold nWalk at m1
  split at m1
  · rename_i ds
    cases r with
    | tup tr rr =>
      rename_i p vs
      refine ⟨p, rfl, .inr ⟨⟨vs, tr.sq⟩, ?_⟩⟩
      refine loop_ok (kp := fun _ => True) k1 (fun H2 S2 x s _ => ⟨vs, (tr.ext x).sq, by rw [← rr.length]; exact Nat.le_refl _⟩) (fun i H2 S2 hi x s _ => ?_) (fun i H2 S2 y H3 d hd x s _ yl => ?_) A1 True.intro m1
      · obtain ⟨v, hv, _⟩ := rr.get (List.getElem?_eq_getElem hi)
        exact ⟨vs, v, (tr.ext x).sq, hv⟩
      · obtain ⟨rfl, yl⟩ := yl
        obtain ⟨v, hv, rv⟩ := rr.get hd
        have := yl vs (tr.ext x).sq
        rw [hv] at this
        cases this
        exact ⟨S2, .refl _, s, fun _ _ h => h, rfl, rv.ext x⟩
  · rename_i ds
    cases r with
    | rol tr rr =>
      rename_i p vs
      refine ⟨p, rfl, .inl ⟨⟨vs, tr.sq⟩, ?_⟩⟩
      refine loop_ok (kp := fun _ => True) k1 (fun H2 S2 x s _ => ⟨vs, (tr.ext x).sq, by rw [← rr.length]; exact Nat.le_refl _⟩) (fun i H2 S2 hi x s _ => ?_) (fun i H2 S2 y H3 d hd x s _ yl => ?_) A1 True.intro m1
      · obtain ⟨v, hv, _⟩ := rr.get (List.getElem?_eq_getElem hi)
        exact ⟨vs, v, (tr.ext x).sq, hv⟩
      · obtain ⟨rfl, yl⟩ := yl
        obtain ⟨v, hv, rv⟩ := rr.get hd
        have := yl vs (tr.ext x).sq
        rw [hv] at this
        cases this
        exact ⟨S2, .refl _, s, fun _ _ h => h, rfl, rv.ext x⟩
  · rename_i p
    cases r
    split at m1
    · rename_i ds e1
      obtain ⟨vs0, g0, _⟩ := s1.lst e1
      refine ⟨p, rfl, .inl ⟨⟨vs0, SqL.of g0⟩, ?_⟩⟩
      refine loop_ok (kp := fun S' => S' p = some (.lst ds)) k1 (fun H2 S2 x s kk => ?_) (fun i H2 S2 hi x s kk => ?_) (fun i H2 S2 y H3 d hd x s kk yl => ?_) A1 e1 m1
      · obtain ⟨vs, g1, rr⟩ := s.lst kk
        exact ⟨vs, SqL.of g1, by rw [← rr.length]; exact Nat.le_refl _⟩
      · obtain ⟨vs, g1, rr⟩ := s.lst kk
        obtain ⟨v, hv, _⟩ := rr.get (List.getElem?_eq_getElem hi)
        exact ⟨vs, v, SqL.of g1, hv⟩
      · obtain ⟨vs, g1, rr⟩ := s.lst kk
        obtain ⟨rfl, yl⟩ := yl
        obtain ⟨v, hv, rv⟩ := rr.get hd
        have := yl vs (SqL.of g1)
        rw [hv] at this
        cases this
        exact ⟨S2, .refl _, s, fun _ _ h => h, rfl, rv⟩
    · exact m1.elim
  · exact m1.elim
/-- lo, lo + 1, .. -/
def rangeD (lo : Int) (n : Nat) : List D := (List.range n).map fun (i : Nat) => D.int (lo + (i : Int))
def RngOk (i : Int) : Prop := -(2 ^ 62) ≤ i ∧ i < 2 ^ 62
def sForR1 (m : NE) (g : NG) (b : NS) : NS := fun Z e S => m e S fun x S1 => match x with
  | .int j => RngOk j ∧ loopL g b Z (fun _ => True) (rangeD 0 j.toNat) e S1
  | _ => False
def sForR2 (m m' : NE) (g : NG) (b : NS) : NS := fun Z e S => m e S fun x S1 => m' e S1 fun y S2 => match x, y with
  | .int i, .int j => (RngOk i ∧ RngOk j) ∧ loopL g b Z (fun _ => True) (rangeD i (j - i).toNat) e S2
  | _, _ => False
theorem rangeD_get {lo : Int} {n i : Nat} {d : D} (h : (rangeD lo n)[i]? = some d) : i < n ∧ d = .int (lo + (i : Int)) := by
  unfold rangeD at h
  rw [List.getElem?_map] at h
  cases e : (List.range n)[i]? with
  | none => rw [e] at h; cases h
  | some j =>
    rw [e] at h
    obtain ⟨h1, h2⟩ := List.getElem?_eq_some_iff.mp e
    rw [List.length_range] at h1
    rw [List.getElem_range] at h2
    subst h2
    cases h
    exact ⟨h1, rfl⟩
theorem rangeD_length {lo : Int} {n : Nat} : (rangeD lo n).length = n := by unfold rangeD; simp
theorem rng_ok {K : PySem.W.Frag} {g : NG} {b : NS} {D' : NEnds} {Z : Ends} {lo : Int} {n : Nat} {H1 : Hp} {σ : L2.St} {e : Env} {S1 : Sto} (k : EndsR K H0 H1 D' Z) (A : At K H0 H1 σ e S1) (m : loopL g b D' (fun _ => True) (rangeD lo n) e S1) :
    ∃ W : Nat → Nat → L2.St → Hp → Prop, (∃ m, W 0 m σ H1) ∧ ∀ i m σ H, W i m σ H →
      ((Itr lo n).stop i H ∧ Z.nx σ H) ∨ ((Itr lo n).go i H ∧ ∃ N : L2.St → Hp → Prop, (∀ σ' H', N σ' H' → ∃ m', m' < m ∧ W (i + 1) m' σ' H') ∧ ∀ x H', (Itr lo n).yld i H x H' → (lG K H0 g) x σ H' fun σ2 H2 => (lS K H0 b) { Z with nx := N, ct := N, bk := Z.nx } σ2 H2) := by
  refine loop_ok (kp := fun _ => True) k (fun H S x s _ => ?_) (fun i H S hi x s _ => ?_) (fun i H S y H' d hd x s _ yl => ?_) A True.intro m
  · exact Nat.le_of_eq rangeD_length.symm
  · rw [rangeD_length] at hi; exact hi
  · obtain ⟨rfl, rfl⟩ := yl
    obtain ⟨_, rfl⟩ := rangeD_get hd
    exact ⟨S, .refl _, s, fun _ _ h => h, rfl, .int _⟩
theorem js_forR1 {tg : Expr} {g : NG} {p rpos : Pos} (cx : NX X H0 w) (hm : X.mg "range" = none) (hl : JE X H0 a ma) (hg : JG X H0 tg g) (hb : JSs X H0 body t) (hgl : Gl X "range" := by rfl) (hsr : starEach [a] X.env = [(false, eval a X.env)] := by rfl) (hs1 : starEach [a] X.env = (false, eval a X.env) :: starEach [] X.env := by rfl)
    (hs : ∀ x, foldedSetIterable (.Call (.Name "range" p) [a] [] rpos) X.env x = pure x := by intro _; rfl) : JS X H0 (.For tg (.Call (.Name "range" p) [a] [] rpos) body [] pos) (sForR1 ma g t) := by
  refine (ps_for cx.po cx.calm (pi_range1 hgl hm (ja_cons hl ja_nil hs1) hsr) hg hb hs).imq fun Z σ H ⟨e, S, D', A, m, k⟩ => ?_
  refine ⟨e, S, (fun ds S1 => ∃ x, ds = [x] ∧ match x with
    | .int j => RngOk j ∧ loopL g t D' (fun _ => True) (rangeD 0 j.toNat) e S1
    | _ => False), A, ?_, fun ds S1 vs H1 x1 s1 r ⟨x, ed, m1⟩ => ?_⟩
  · show ma e S _
    unfold sForR1 at m
    have : (fun x S1 => ∃ x_1, [x] = [x_1] ∧ match x_1 with
      | D.int j => RngOk j ∧ loopL g t D' (fun _ => True) (rangeD 0 j.toNat) e S1
      | _ => False) = (fun x S1 => match x with
      | D.int j => RngOk j ∧ loopL g t D' (fun _ => True) (rangeD 0 j.toNat) e S1
      | _ => False) := by
      funext x S1
      refine propext ⟨fun ⟨y, e, h⟩ => ?_, fun h => ⟨x, rfl, h⟩⟩
      cases e; exact h
    show ma e S fun x S1 => _
    exact (congrArg (ma e S) this).mpr m
  · subst ed
    obtain ⟨v, rfl, rv⟩ := vrs1 r
    split at m1
    · rename_i j _
      cases rv
      exact ⟨j, rfl, m1.1.1, m1.1.2, rng_ok (k.ext x1) (A.next x1 s1) m1.2⟩
    · exact m1.elim
theorem js_forR2 {tg : Expr} {g : NG} {p rpos : Pos} (cx : NX X H0 w) (hm : X.mg "range" = none) (hl : JE X H0 a ma) (hl2 : JE X H0 b mb) (hg : JG X H0 tg g) (hb : JSs X H0 body t) (hgl : Gl X "range" := by rfl) (hsr : starEach [a, b] X.env = [(false, eval a X.env), (false, eval b X.env)] := by rfl)
    (hsr2 : starEach [b] X.env = [(false, eval b X.env)] := by rfl) (hs1 : starEach [b] X.env = (false, eval b X.env) :: starEach [] X.env := by rfl) (hs2 : starEach [a, b] X.env = (false, eval a X.env) :: starEach [b] X.env := by rfl)
    (hs : ∀ x, foldedSetIterable (.Call (.Name "range" p) [a, b] [] rpos) X.env x = pure x := by intro _; rfl) : JS X H0 (.For tg (.Call (.Name "range" p) [a, b] [] rpos) body [] pos) (sForR2 ma mb g t) := by
  refine (ps_for cx.po cx.calm (pi_range2 hgl hm (ja_cons hl (ja_cons hl2 ja_nil hs1) hs2) hsr hsr2) hg hb hs).imq fun Z σ H ⟨e, S, D', A, m, k⟩ => ?_
  refine ⟨e, S, (fun ds S1 => ∃ x y, ds = [x, y] ∧ match x, y with
    | .int i, .int j => (RngOk i ∧ RngOk j) ∧ loopL g t D' (fun _ => True) (rangeD i (j - i).toNat) e S1
    | _, _ => False), A, ?_, fun ds S1 vs H1 x1 s1 r ⟨x, y, ed, m1⟩ => ?_⟩
  · unfold sForR2 at m
    have : ∀ x : D, (fun y S1 => ∃ x_1 y_1, [x, y] = [x_1, y_1] ∧ match x_1, y_1 with
      | D.int i, D.int j => (RngOk i ∧ RngOk j) ∧ loopL g t D' (fun _ => True) (rangeD i (j - i).toNat) e S1
      | _, _ => False) = (fun y S1 => match x, y with
      | D.int i, D.int j => (RngOk i ∧ RngOk j) ∧ loopL g t D' (fun _ => True) (rangeD i (j - i).toNat) e S1
      | _, _ => False) := by
      intro x
      funext y S1
      refine propext ⟨fun ⟨a, b, e, h⟩ => ?_, fun h => ⟨x, y, rfl, h⟩⟩
      cases e; exact h
    have h2 : (fun x S1 => mb e S1 fun y S2 => ∃ x_1 y_1, [x, y] = [x_1, y_1] ∧ match x_1, y_1 with
      | D.int i, D.int j => (RngOk i ∧ RngOk j) ∧ loopL g t D' (fun _ => True) (rangeD i (j - i).toNat) e S2
      | _, _ => False) = (fun x S1 => mb e S1 fun y S2 => match x, y with
      | D.int i, D.int j => (RngOk i ∧ RngOk j) ∧ loopL g t D' (fun _ => True) (rangeD i (j - i).toNat) e S2
      | _, _ => False) := by
      funext x S1
      rw [this x]
    exact (congrArg (ma e S) h2).mpr m
  · subst ed
    obtain ⟨v, v2, rfl, rv, rv2⟩ := vrs2 r
    split at m1
    · rename_i i j _
      cases rv; cases rv2
      exact ⟨i, j, rfl, ⟨m1.1.1.1, m1.1.1.2, m1.1.2.1, m1.1.2.2⟩, rng_ok (k.ext x1) (A.next x1 s1) m1.2⟩
    · exact m1.elim

/-! ### while -/
def whileN (c : NT) (b : NS) (D : NEnds) : Nat → Env → Sto → Prop
  | 0, _, _ => False
  | n + 1, e, S => c e S fun k S1 => match k with
    | true => b { nx := whileN c b D n, ct := whileN c b D n, bk := D.nx, rt := D.rt } e S1
    | false => D.nx e S1
def sWhile (c : NT) (b : NS) : NS := fun D e S => ∃ n, whileN c b D n e S
theorem js_while (cx : NX X H0 w) (hc : JT X H0 c tc) (hb : JSs X H0 body t) : JS X H0 (.While c body [] pos) (sWhile tc t) := by
  refine (ps_while cx.po hc hb).imq fun D σ H ⟨e, S, D', A, ⟨n, m⟩, k⟩ => ?_
  refine ⟨fun n σ' H' => HExt H H' ∧ ∃ e S, At X.K H0 H' σ' e S ∧ whileN tc t D' n e S, ⟨n, .refl H, e, S, A, m⟩, ?_⟩
  rintro n σ1 H1 ⟨x1, e1, S1, A1, m1⟩
  cases n with
  | zero => exact m1.elim
  | succ n =>
    refine ⟨e1, S1, _, A1, m1, fun b S2 H2 x2 s2 q => ?_⟩
    cases b with
    | false => exact iteF (k.nx e1 S2 σ1 H2 (x1.trans x2) (A1.next x2 s2) q)
    | true =>
      refine iteT ⟨fun σ' H' => HExt H H' ∧ ∃ e S, At X.K H0 H' σ' e S ∧ whileN tc t D' n e S, fun σ' H' h => ⟨n, Nat.lt_succ_self n, h⟩, ?_⟩
      have xx := x1.trans x2
      exact ⟨e1, S2, _, A1.next x2 s2, q, ⟨fun e3 S3 σ3 H3 x3 A3 q3 => ⟨xx.trans x3, e3, S3, A3, q3⟩, fun d S3 v H3 x3 s3 rv q3 => k.rt d S3 v H3 (xx.trans x3) s3 rv q3, fun e3 S3 σ3 H3 x3 A3 q3 => k.nx e3 S3 σ3 H3 (xx.trans x3) A3 q3, fun e3 S3 σ3 H3 x3 A3 q3 => ⟨xx.trans x3, e3, S3, A3, q3⟩⟩⟩

/-! ### raise -/
def sRaise (c : Str) (w : NW) : NS := fun _ e S => w c none e S
theorem js_raise {x : Str} {p p2 cpos : Pos} {m : Str} {j : Nat} (cx : NX X H0 w) (hx : (He.Fa.exc x).ok X.K = true) (hm : X.mg x = some (.ref (He.ga X.K x))) (hg : Gl X x := by rfl) (hdb : (x == ("__debug__" : Str)) = false := by decide +kernel) :
    JS X H0 (.Raise (some (.Call (.Name x p) [.Constant (.str m) j p2] [] cpos)) none pos) (sRaise x w) := by
  obtain ⟨h1, h2, h3, h4⟩ := He.exc_ok hx
  refine (ps_raise cx.calm cx.tk (pmk_own PySem.F.excBase_ValueError h1 hm h2 (raises_own h3 h4) hg hdb)).imq fun D σ H ⟨e, S, D', A, m, k⟩ => ?_
  exact ⟨x, e, S, rfl, A, m⟩
end
end N

set_option Elab.async false
set_option linter.all false
set_option maxRecDepth 100000
set_option maxHeartbeats 4000000
namespace N
variable [TabList]
open PySem PySem.Spec PyProof.Rows L2
section
variable {X : Cx} {pins : List (Addr × Obj)} {σ : L2.St} {H : Hp} {s : Shared}
/-- an object that came up since the entry is tracked from now on, by what is true of it -/
theorem track (I : Inv X pins σ H s) {a : Addr} {oe : Obj} {vs : Array Value} {φ : Heap → Prop} (hx : X.ex = []) (ha : s.heap.get? a = some oe) (hd : oe.data = .fields vs) (n : H a = none) (n0 : X.s_0.heap.get? a = none) (nL : a ≠ X.env.locals) (np : ∀ p ∈ X.pn ++ pins, p.1 ≠ a)
    (ok : ObjOk X.prog X.w (upd H a (.ext φ)) s.heap a (.ext φ)) : Inv X pins σ (upd H a (.ext φ)) s := by
  have neH : ∀ {b o}, H b = some o → b ≠ a := fun {b o} e z => by rw [z, n] at e; cases e
  have ne0 : ∀ {b o}, X.s_0.heap.get? b = some o → b ≠ a := fun {b o} e z => by rw [z, n0] at e; cases e
  have neC : ∀ x c, X.env.cells.lookup x = some c → c ≠ a := fun x c e z => by
    obtain ⟨v, o, ho, hc⟩ := I.cell x c e
    rw [z, ha] at ho
    cases ho
    rw [hd] at hc; cases hc
  refine ⟨I.ok, I.os, I.bare, ⟨I.base.keep, I.base.slot, fun b o e m hb => ?_, I.base.there, fun b xs e => ?_, fun b o u e => ?_, fun b ps e => ?_⟩, I.loc, I.cell, ?_, fun x c e => ?_, fun p hp => ?_, fun b u e => ?_, I.len⟩
  · rw [upd_ne (ne0 e)]; exact I.base.free b o e m hb
  · have := I.base.tups b xs e
    rw [upd_ne (neH this)]; exact this
  · have := I.base.frzs b o u e
    rw [upd_ne (neH this)]; exact this
  · obtain ⟨more, q⟩ := I.base.tbls b ps e
    exact ⟨more, by rw [upd_ne (neH q)]; exact q⟩
  · rw [upd_ne (Ne.symm nL)]; exact I.free
  · rw [upd_ne (neC x c e)]; exact I.freeC x c e
  · obtain ⟨h1, h2, h3⟩ := I.pin p hp
    exact ⟨h1, by rw [upd_ne (np p hp)]; exact h2, h3⟩
  · by_cases hb : b = a
    · subst hb
      rw [upd_same] at e
      cases e; exact ok
    · rw [upd_ne hb] at e
      exact (I.hok b u e).stay (fun _ _ _ q => q) (fun c q => by rw [upd_ne (neH q)]; exact q) fun c xs q => by rw [upd_ne (neH q)]; exact q
theorem excP_ok {P : Program} {w : World} {H : Hp} {h : Heap} {a : Addr} {cls : Value} {d : Option Addr} {oe : Obj} {vs : Array Value} (e : h.get? a = some oe) (z : Zc cls d oe) (hd : oe.data = .fields vs) : ObjOk P w H h a (.ext (excP a cls d)) :=
  ⟨⟨oe, vs, e, z, hd⟩, ⟨oe, e⟩, fun _ _ ⟨o, v, q, r⟩ k => ⟨o, v, k o q, r⟩⟩
/-- the wish, where the exception stays -/
def wKeep (K : PySem.W.Frag) (c : Value) (i : Nat) (ts : Addr → Value → Option Addr → TS) (Wout : WX) (D : Ends) : WX := fun cls d σ H =>
  ∃ b, PySem.W.exmOne K cls c = some b ∧ (b = true → ∀ a, H a = none → ts a cls d { nx := fun σ' H' => H' a = none → D.nx (σ'.set i none) (upd H' a (.ext (excP a cls d))), rt := fun _ _ => False, bk := fun _ _ => False, ct := fun _ _ => False } (σ.set i (some (.ref a))) H) ∧
    (b = false → Wout cls d σ H)
variable {x n : Str} {c : Value} {i : Nat} {body suite : List Stmt} {b₀ : Stmt} {np pos pos' : Pos} {tb : WX → TS} {ts : Addr → Value → Option Addr → TS} {Wout : WX}
theorem ps_try_keep (hs : X.stack = X.env :: X.outer) (hf : X.env.frame = some X.env.locals) (hex : X.ex = []) (hN : X.N.Nodup) (hi : X.N[i]? = some n) (hln : X.env.kindOf n = some .local) (hc : Names X x c) (tk : Takes X Wout)
    (hb : ∀ (W : WX) (pn : List (Addr × Obj)) (xe : Value → Shared → Prop), Takes (X.tr pn xe) W → PassesOwn (model X.prog X.w) X.A X.env xe → PSs (X.tr pn xe) body (tb W))
    (hsu : ∀ (a : Addr) (oe : Obj) (cls : Value) (d : Option Addr) (pn : List (Addr × Obj)), Zc cls d oe → (∃ vs, oe.data = .fields vs) → PSs (X.suite a ((a, oe) :: pn)) (b₀ :: suite) (ts a cls d)) :
    PS X (.Try body [.ExceptHandler (some (.Name x np)) (some n) (b₀ :: suite) pos'] [] [] pos) (fun D σ H => tb (wKeep X.K c i ts Wout D) D σ H) := by
  refine ⟨fun pins s σ H D I h => ?_⟩
  have ok := I.ok
  have hfr : X.A.frames = some (X.env :: X.outer) := by rw [ok.frames, hs]
  have hloc : Loc X.env.scope n := .inl hln
  refine wpAny_Try_except ?_
  refine wpAny_mono ((hb (wKeep X.K c i ts Wout D) (X.pn ++ pins) (fun e s₁ => wpAny (model X.prog X.w) X.A (noteFrame e X.env) (fun _ s₂ => wpAny (model X.prog X.w) X.A (setFlight e none) (fun _ s₃ =>
    wpAny (model X.prog X.w) X.A (handleBy e X.env [.ExceptHandler (some (.Name x np)) (some n) (b₀ :: suite) pos']) (SP X pins D) X.xe s₃) X.xe s₂) X.xe s₁) (fun u s' xx => ?_) PassesOwn.looking).run [] s σ H D (I.toTry _) h) (fun f s1 hsp => ?_) (fun e s1 he => he)
  · -- the catch
    obtain ⟨a, B, sI, pins', σ', H', cls, d, rfl, J', nb, up, sky, na, os, ag, b, hb1, hyes, hno⟩ := xx
    have J : Inv X pins σ' H' sI := J'.ofTry ok
    have sky' : Sky B (X.env :: X.outer) a (Zc cls d) X.env.locals s'.heap := by rw [← hs]; exact sky
    show wpAny (model X.prog X.w) X.A (noteFrame (.ref a) X.env) _ _ _
    refine Sky.land Zc.steady hfr hf sky' fun h3 fl3 up3 => ?_
    have J3 : Inv X pins σ' H' { s' with heap := h3 } := J.landed nb fl3.1 (up.trans up3) os ag
    obtain ⟨oe3, vs3, he3, hz3, hd3⟩ := fl3.there
    have notFr : ∀ {h : Heap} {o : Obj} {vs : Array Value}, h.FunFrames B (X.env :: X.outer) → h.get? a = some o → o.data = .fields vs → a ∉ frs (X.env :: X.outer) := fun {h o vs} ff e dd hm => by
      obtain ⟨_, o', e', hnf⟩ := ff.mem hm
      rw [e] at e'; cases e'
      exact hnf _ dd
    have nfr := notFr fl3.2.2.1 he3 hd3
    have nL : a ≠ X.env.locals := fun z => nfr (List.mem_filterMap.mpr ⟨X.env, List.mem_cons_self, by rw [hf, z]⟩)
    have nF : a ∉ X.fs := fun hm => by
      obtain ⟨e, he, q⟩ := List.mem_filterMap.mp hm
      exact nfr (List.mem_filterMap.mpr ⟨e, List.mem_cons_of_mem _ he, q⟩)
    -- it came up since
    have nI : sI.heap.get? a = none := by
      cases e : sI.heap.get? a with
      | none => rfl
      | some o =>
        have := nb a o e (by rw [hs]; exact nfr)
        rw [fl3.2.1] at this; cases this
    have n0 : X.s_0.heap.get? a = none := by
      cases e : X.s_0.heap.get? a with
      | none => rfl
      | some o =>
        obtain ⟨o', q⟩ := J.base.there a o e (by rw [hex]; exact fun z => nomatch z)
        rw [nI] at q; cases q
    have npin : ∀ p ∈ X.pn ++ pins, p.1 ≠ a := fun p hp z => by
      have := (J.pin p hp).1
      rw [z, nI] at this; cases this
    have S3 := J3.suite he3 hd3 na nL nF
    refine wpAny_handleBy_cons (codeAny_handlers_test ?_) (by intro q; cases q)
    have LT : PySem.W.Looks (model X.prog X.w) h3 (typeOf (.ref a)) cls := fun A Q E s k q => wpAny_typeOf_ref (k _ _ he3) (by rw [hz3.1]; exact q)
    have LM := PySem.W.exm_one (M := model X.prog X.w) (J3.kIn) LT hb1
    have test : ∀ {Q : Value → Shared → Prop} {E : Value → Shared → Prop}, Q c { s' with heap := h3 } → wpAny (model X.prog X.w) (X.A.mark (some (.ref a))) (eval (.Name x np) X.env) Q E { s' with heap := h3 } := fun {Q E} q => by
      obtain ⟨hg, hdbg, hm | ⟨hm, hv, hnn⟩⟩ := hc
      · exact ld_glob (X := X.suite a ((a, oe3) :: (X.pn ++ pins))) S3 hg hm q hdbg
      · exact ld_blt (X := X.suite a ((a, oe3) :: (X.pn ++ pins))) S3 hg hm hv q hnn hdbg
    refine test (LM.here ?_)
    cases b with
    | true =>
      refine codeAny_handlers_suite_as ?_
      refine HandSPX.lands_againZ fl3 fun h4 fl4 up4 => ?_
      have J4 : Inv X pins σ' H' { s' with heap := h4 } := J.landed nb fl4.1 ((up.trans up3).trans up4) os ag
      obtain ⟨oe4, vs4, he4, hz4, hd4⟩ := fl4.there
      have S4 := J4.suite he4 hd4 na nL nF
      refine store_ok (X := X.suite a ((a, oe4) :: (X.pn ++ pins))) (v := .ref a) S4 hN hi hloc rfl (fun s5 S5 => ?_) (.inr hln)
      refine wpAny_mono ((hsu a oe4 cls d (X.pn ++ pins) hz4 ⟨_, hd4⟩).run [] s5 _ H' _ S5 (hyes rfl a na)) (fun f s6 hsp => ?_) (fun _ _ z => False.elim z)
      have end_ : ∀ {σ6 : L2.St} {H6 : Hp} {Q : Shared → Prop}, Inv (X.suite a ((a, oe4) :: (X.pn ++ pins))) [] σ6 H6 s6 → (∀ s7, Inv X pins (σ6.set i none) (upd H6 a (.ext (excP a cls d))) s7 → Q s7) →
          wpAny (model X.prog X.w) X.A (do bindName X.env n .none; unbindBehindTheSuite X.env n pos') (fun _ s7 => Q s7) X.xe s6 := fun {σ6 H6 Q} S6 hq => by
        obtain ⟨hg6, hn6, _⟩ := S6.pin (a, oe4) (List.mem_append_left _ List.mem_cons_self)
        exact gone_ok (track (S6.unsuite ok) hex hg6 hd4 hn6 n0 nL npin (excP_ok hg6 hz4 hd4)) hN hi hln hq
      have free_ : ∀ {σ6 : L2.St} {H6 : Hp}, Inv (X.suite a ((a, oe4) :: (X.pn ++ pins))) [] σ6 H6 s6 → H6 a = none := fun S6 => (S6.pin (a, oe4) (List.mem_append_left _ List.mem_cons_self)).2.1
      cases f with
      | next =>
        obtain ⟨σ6, H6, S6, q6⟩ := hsp
        exact end_ S6 fun s7 J7 => ⟨_, _, J7, q6 (free_ S6)⟩
      | brk =>
        obtain ⟨σ6, H6, S6, q6⟩ := hsp
        exact q6.elim
      | cont =>
        obtain ⟨σ6, H6, S6, q6⟩ := hsp
        exact q6.elim
      | ret u =>
        obtain ⟨v6, σ6, H6, S6, r6, q6⟩ := hsp
        exact q6.elim
    | false =>
      show wpAny _ X.A (handleBy (.ref a) X.env []) _ _ _
      refine wpAny_handleBy_nil ?_
      obtain ⟨k1, k2, k3, oe, vs, T, oT, ts', he, hz, hd, h1, hr⟩ := id fl3
      unfold PySem.passOn
      refine wpAny_bind (wpAny_field he hd h1 ?_)
      rw [if_neg (show ¬ ((Value.ref T == Value.none) = true) from by simp)]
      have fin : wpAny (model X.prog X.w) X.A (setFlight (.ref a) X.env.frame) (fun _ s4 => wpAny (model X.prog X.w) X.A (throw (.ref a) : Sem Flow) (SP X pins D) X.xe s4) X.xe { s' with heap := h3 } := by
        rw [hf]
        refine HandSPX.setFlight_upZ fl3 fun h4 hh4 up4 => wpAny_throw (tk _ _ ?_)
        exact ⟨a, B, sI, pins, σ', H', cls, d, rfl, J, nb, (up.trans up3).trans up4, .inr (.inr (by rw [hs]; exact hh4)), na, os, ag, hno rfl⟩
      first
        | exact wpAny_bind (wpAny_pure (wpAny_bind fin))
        | exact wpAny_bind fin
  · cases f with
    | next =>
      obtain ⟨σ', H', J', q⟩ := hsp
      exact wpAny_execs_nil ⟨σ', H', J'.ofTry ok, q⟩
    | brk =>
      obtain ⟨σ', H', J', q⟩ := hsp
      exact ⟨σ', H', J'.ofTry ok, q⟩
    | cont =>
      obtain ⟨σ', H', J', q⟩ := hsp
      exact ⟨σ', H', J'.ofTry ok, q⟩
    | ret u =>
      obtain ⟨v, σ', H', J', r, q⟩ := hsp
      exact ⟨v, σ', H', J'.ofTry ok, r, q⟩
end

/-! ### the nice ones -/
/-- whether 'except x' catches a c; none where that isn't told -/
def catchOf (CL : List Str) (c x : Str) : Option Bool := if CL.contains c && (Str.ofString "MartError" :: CL).contains x then some (isT (.cls c) (.cls x)) else none
structure KX (CL : List Str) (K : PySem.W.Frag) : Prop where
  exm : ∀ c ∈ CL, ∀ x ∈ (Str.ofString "MartError" :: CL), PySem.W.exmOne K (.ref (He.ga K c)) (.ref (He.ga K x)) = some (isT (.cls c) (.cls x))
section
variable {X : Cx} {H0 : Hp} {w : NW} {x n y : Str} {i j : Nat} {body suite : List Stmt} {b₀ : Stmt} {np pos pos' p1 p2 p3 : Pos} {mb : NW → NS} {ms : NS}
theorem catch_ok {CL : List Str} {c : Str} {b : Bool} (F : KX CL X.K) (h : catchOf CL c x = some b) : PySem.W.exmOne X.K (.ref (He.ga X.K c)) (.ref (He.ga X.K x)) = some b := by
  unfold catchOf at h
  split at h
  · rename_i e
    rw [Bool.and_eq_true] at e
    cases h
    exact F.exm c (List.contains_iff_mem.mp e.1) x (List.contains_iff_mem.mp e.2)
  · cases h
/-- try: .. except X: .. -/
def sTryO (CL : List Str) (x : Str) (mb : NW → NS) (ms : NS) (w : NW) : NS := fun D e S => mb (fun c d e1 S1 => match catchOf CL c x with
  | some true => ms D e1 S1
  | some false => w c d e1 S1
  | none => False) D e S
theorem js_try_only {CL : List Str} (cx : NX X H0 w) (F : KX CL X.K) (hm : X.mg x = some (.ref (He.ga X.K x))) (hs : X.stack = X.env :: X.outer) (hf : X.env.frame = some X.env.locals)
    (hb : ∀ (H1 : Hp) (w' : NW) (pn : List (Addr × Obj)) (xe : Value → Shared → Prop), HExt H0 H1 → NX (X.tr pn xe) H1 w' → JSs (X.tr pn xe) H1 body (mb w'))
    (hsu : ∀ (H1 : Hp) (a : Addr) (pn : List (Addr × Obj)), JSs (X.suite a pn) H1 (b₀ :: suite) ms) (hg : Gl X x := by rfl) (hdb : (x == ("__debug__" : Str)) = false := by decide +kernel) :
    JS X H0 (.Try body [.ExceptHandler (some (.Name x np)) none (b₀ :: suite) pos'] [] [] pos) (sTryO CL x mb ms w) := by
  refine (ps_try_only (tb := fun W D σ H => ∃ (H1 : Hp) (w' : NW), HExt H0 H1 ∧ (∀ c d σ H, lW X.K H1 w' c d σ H → W c d σ H) ∧ lS X.K H1 (mb w') D σ H) (ts := fun _ _ _ D σ H => ∃ H1, lS X.K H1 ms D σ H) hs hf ⟨hg, hdb, .inl hm⟩ cx.tk (fun W pn xe tk po => ?_) (fun a oe cls d pn hz hfl => ?_)).imq fun D σ H ⟨e, S, D', A, m, k⟩ => ?_
  · refine ⟨fun pins s σ H D I h => ?_⟩
    obtain ⟨H1, w', ht, h1, h2⟩ := h
    exact (hb H1 w' pn xe ht ⟨tk.imp h1, po, cx.calm, ht.tab cx.tb⟩).run pins s σ H D I h2
  · refine ⟨fun pins s σ H D I h => ?_⟩
    obtain ⟨H1, h1⟩ := h
    exact (hsu H1 a ((a, oe) :: pn)).run pins s σ H D I h1
  · refine ⟨H, _, A.x, fun u d σ1 H1 ⟨c, e1, S1, ec, A1, q⟩ => ?_, e, S, D', ⟨.refl H, A.e, A.s⟩, m, ⟨fun e' S' σ' H' x A' q => k.nx e' S' σ' H' x ⟨A.x.trans x, A'.e, A'.s⟩ q, k.rt, fun e' S' σ' H' x A' q => k.bk e' S' σ' H' x ⟨A.x.trans x, A'.e, A'.s⟩ q, fun e' S' σ' H' x A' q => k.ct e' S' σ' H' x ⟨A.x.trans x, A'.e, A'.s⟩ q⟩⟩
    subst ec
    cases e : catchOf CL c x with
    | none =>
      dsimp only at q
      rw [e] at q; exact q.elim
    | some b =>
      refine ⟨b, catch_ok F e, fun eb a na => ?_, fun eb => ?_⟩
      · subst eb
        dsimp only at q
        rw [e] at q
        exact ⟨H0, e1, S1, D', ⟨A.x.trans A1.x, A1.e, A1.s⟩, q, k.ext A1.x⟩
      · subst eb
        dsimp only at q
        rw [e] at q
        exact ⟨c, e1, S1, rfl, ⟨A.x.trans A1.x, A1.e, A1.s⟩, q⟩
/-- try: .. except X as n: y = n; the exception stays -/
def sTryK (CL : List Str) (x : Str) (i j : Nat) (mb : NW → NS) (w : NW) : NS := fun D e S => mb (fun c d e1 S1 => match catchOf CL c x with
  | some true => i < e1.length ∧ ∀ a, S1 a = none → D.nx ((e1.set j (some (.ref a))).set i none) (put S1 a (.exc c d))
  | some false => w c d e1 S1
  | none => False) D e S
theorem js_try_keep {CL : List Str} (cx : NX X H0 w) (F : KX CL X.K) (hm : X.mg x = some (.ref (He.ga X.K x))) (hN : X.N.Nodup) (hs : X.stack = X.env :: X.outer) (hf : X.env.frame = some X.env.locals) (hex : X.ex = []) (hfn : ∀ z, X.fn z = true) (hij : i ≠ j)
    (hb : ∀ (H1 : Hp) (w' : NW) (pn : List (Addr × Obj)) (xe : Value → Shared → Prop), HExt H0 H1 → NX (X.tr pn xe) H1 w' → JSs (X.tr pn xe) H1 body (mb w'))
    (hi : X.N[i]? = some n) (hj : X.N[j]? = some y) (hln : X.env.kindOf n = some .local) (hly : Loc X.env.scope y) (hsw : ∀ a pn, swapsWith (.Name n p2) (some (.Name y p1)) p3.line (X.suite a pn).env = pure false)
    (hdn : (n == ("__debug__" : Str)) = false := by decide +kernel) (hcn : (n == ("__classdict__" : Str)) = false := by decide +kernel) (hg : Gl X x := by rfl) (hdb : (x == ("__debug__" : Str)) = false := by decide +kernel) :
    JS X H0 (.Try body [.ExceptHandler (some (.Name x np)) (some n) [.Assign [.Name y p1] (.Name n p2) p3] pos'] [] [] pos) (sTryK CL x i j mb w) := by
  refine (ps_try_keep (tb := fun W D σ H => ∃ (H1 : Hp) (w' : NW), HExt H0 H1 ∧ (∀ c d σ H, lW X.K H1 w' c d σ H → W c d σ H) ∧ lS X.K H1 (mb w') D σ H) (ts := fun a _ _ D σ H => tAsg (tVar i) (gName j) D σ H) hs hf hex hN hi hln ⟨hg, hdb, .inl hm⟩ cx.tk (fun W pn xe tk po => ?_) (fun a oe cls d pn hz hfl => ?_)).imq fun D σ H ⟨e, S, D', A, m, k⟩ => ?_
  · refine ⟨fun pins s σ H D I h => ?_⟩
    obtain ⟨H1, w', ht, h1, h2⟩ := h
    exact (hb H1 w' pn xe ht ⟨tk.imp h1, po, cx.calm, ht.tab cx.tb⟩).run pins s σ H D I h2
  · exact pss_one (ps_set (X := X.suite a ((a, oe) :: pn)) hN hj hly (pe_var (X := X.suite a ((a, oe) :: pn)) hi (.inl hln) hdn hcn) (hsw _ _) (.inl (hfn y)))
  · refine ⟨H, _, A.x, fun u d σ1 H1 ⟨c, e1, S1, ec, A1, q⟩ => ?_, e, S, D', ⟨.refl H, A.e, A.s⟩, m, ⟨fun e' S' σ' H' x A' q => k.nx e' S' σ' H' x ⟨A.x.trans x, A'.e, A'.s⟩ q, k.rt, fun e' S' σ' H' x A' q => k.bk e' S' σ' H' x ⟨A.x.trans x, A'.e, A'.s⟩ q, fun e' S' σ' H' x A' q => k.ct e' S' σ' H' x ⟨A.x.trans x, A'.e, A'.s⟩ q⟩⟩
    subst ec
    cases e : catchOf CL c x with
    | none =>
      dsimp only at q
      rw [e] at q; exact q.elim
    | some b =>
      refine ⟨b, catch_ok F e, fun eb a na => ?_, fun eb => ?_⟩
      · subst eb
        dsimp only at q
        rw [e] at q
        obtain ⟨hlt0, q⟩ := q
        have q1 := q a (A1.s.fresh na)
        have hlt : i < σ1.length := by rw [← Paired.length A1.e]; exact hlt0
        refine ⟨.ref a, by rw [List.getElem?_set_self hlt], fun na' => ?_⟩
        have xx : HExt H1 (upd H1 a (.ext (excP a (.ref (He.ga X.K c)) d))) := .new na
        have A2 : At X.K H0 (upd H1 a (.ext (excP a (.ref (He.ga X.K c)) d))) σ1 e1 (put S1 a (.exc c d)) := ⟨(A.x.trans A1.x).trans xx, A1.e.ext xx, A1.s.put (o := .exc c d) xx upd_same⟩
        have A3 := A2.set (.ref a) j
        have hc : (((σ1.set i (some (V.ref a))).set j (some (V.ref a))).set i none) = ((σ1.set j (some (V.ref a))).set i none) := by
          rw [List.set_comm _ _ hij, List.set_set]
        rw [hc]
        exact k.nx _ _ _ _ (A1.x.trans xx) ⟨A3.x, A3.e.unset i, A3.s⟩ q1
      · subst eb
        dsimp only at q
        rw [e] at q
        exact ⟨c, e1, S1, rfl, ⟨A.x.trans A1.x, A1.e, A1.s⟩, q⟩
end
end N

set_option Elab.async false
set_option linter.all false
set_option maxRecDepth 100000
set_option maxHeartbeats 4000000
namespace N
variable [TabList]
open PySem PySem.Spec PyProof.Rows L2
section
variable {X : Cx} {H0 : Hp} {w : NW} {a b c o : Expr} {ma mb mc mo : NE} {pos : Pos} {es : List Expr} {mr : NA}

/-! ### chains as tests -/
theorem jt_chain {op op' : CmpOp} {n n' : N2} (ho : OpN X (compareOp op) n) (ho' : OpN X (compareOp op') n') (ha : JE X H0 a ma) (hb : JE X H0 b mb) (hc : JE X H0 c mc)
    (h1 : lastMarks [op, op'] [b, c] = false := by with_unfolding_all rfl) : JT X H0 (.Compare a [op, op'] [b, c] pos) (mTst (mChain n n' ma mb mc)) := by
  obtain ⟨r, h3, h4⟩ := ho
  obtain ⟨r', h5, h6⟩ := ho'
  refine L2.PT.imq (pt_chain h3 h5 ha hb hc h1) fun σ H Q h => ?_
  obtain ⟨e, S, Q', A, m, k⟩ := h
  refine ⟨e, S, _, A, m, fun x S1 vx H1 x1 s1 rx m1 => ?_⟩
  refine ⟨e, S1, _, A.next x1 s1, m1, fun y S2 vy H2 x2 s2 ry m2 => ?_⟩
  refine h4 x y S2 _ vx vy H2 _ s2 (rx.ext x2) ry m2 fun z S3 vz H3 x3 s3 rz m3 => ?_
  cases z with
  | bl t =>
    cases rz
    have x13 := (x1.trans x2).trans x3
    cases t with
    | true =>
      refine ⟨true, rfl, iteT ?_⟩
      refine ⟨e, S3, _, A.next x13 s3, m3, fun u S4 vu H4 x4 s4 ru m4 => ?_⟩
      refine h6 y u S4 _ vy vu H4 _ s4 ((ry.ext x3).ext x4) ru m4 fun d S' v H' x5 s5 rd q => ?_
      cases d with
      | bl t => cases rd; exact ⟨t, rfl, k t S' H' ((x13.trans x4).trans x5) s5 q⟩
      | _ => exact q.elim
    | false => exact ⟨false, rfl, iteF ⟨false, rfl, k false S3 H3 x13 s3 m3⟩⟩
  | _ => exact m3.elim

/-! ### names of the module -/
theorem je_gint {x : Str} {i : Int} (h : ∃ t, X.mg x = some (.int i t)) (hg : Gl X x := by rfl) (hd : (x == ("__debug__" : Str)) = false := by decide +kernel) : JE X H0 (.Name x pos) (mC (.int i)) := by
  obtain ⟨t, h⟩ := h
  exact je_glob (v := .int i) h ⟨t, rfl⟩ (fun _ => .int i) hg hd
theorem je_gstr {x z : Str} (h : ∃ t, X.mg x = some (.str z t)) (hg : Gl X x := by rfl) (hd : (x == ("__debug__" : Str)) = false := by decide +kernel) : JE X H0 (.Name x pos) (mC (.str z)) := by
  obtain ⟨t, h⟩ := h
  exact je_glob (v := .str z) h ⟨t, rfl⟩ (fun _ => .str z) hg hd
theorem je_cls {x : Str} (h : X.mg x = some (.ref (He.ga X.K x))) (hg : Gl X x := by rfl) (hd : (x == ("__debug__" : Str)) = false := by decide +kernel) : JE X H0 (.Name x pos) (mC (.cls x)) :=
  je_glob (v := .ref (He.ga X.K x)) h rfl (fun _ => .cls x) hg hd
theorem je_tyB {x : Str} {T : String} (h : X.mg x = none) (hv : bootBuiltins x = some (.type T) := by decide +kernel) (hg : Gl X x := by rfl) (hn : x ≠ "__name__" := by decide +kernel) (hd : (x == ("__debug__" : Str)) = false := by decide +kernel) : JE X H0 (.Name x pos) (mC (.ty T)) :=
  je_bltn (v := .ty T) h hv rfl (fun _ => .ty T) hg hn hd
/-- a written tuple of texts -/
def tupW (K : PySem.W.Frag) (x : Str) (ys : List Str) : Bool := match K.lookup (He.ga K x) with
  | some ⟨.type c, none, .seq its _, _⟩ => decide (c = "tuple") && (decide (its.size ≤ sizeLine) && He.relAll (ys.map V.str) its.toList)
  | _ => false
structure TupS (K : PySem.W.Frag) (x : Str) (ys : List Str) : Prop where
  ex : ∃ (sl : Array (Option Value)) (its : List Value) (n : Nat), K.lookup (He.ga K x) = some ⟨.type "tuple", none, .seq its.toArray n, sl⟩ ∧ its.length ≤ sizeLine ∧ Vals (ys.map V.str) its
theorem tupW_ok {K : PySem.W.Frag} {x : Str} {ys : List Str} (h : tupW K x ys = true) : TupS K x ys := by
  unfold tupW at h
  cases q : K.lookup (He.ga K x) with
  | none => rw [q] at h; cases h
  | some ob =>
    obtain ⟨oc, od, dt, osl⟩ := ob
    rw [q] at h
    cases oc with
    | type c =>
      cases od with
      | none =>
        cases dt with
        | seq its n =>
          obtain ⟨h1, h2⟩ := He.ba h
          obtain ⟨h3, h4⟩ := He.ba h2
          have e := of_decide_eq_true h1
          subst e
          exact ⟨osl, its.toList, n, by simpa using q, by simpa using of_decide_eq_true h3, He.relAll_ok h4⟩
        | _ => cases h
      | some d => cases dt <;> cases h
    | _ => cases od <;> cases dt <;> cases h
theorem vrs_strs {K : PySem.W.Frag} {H : Hp} : ∀ ys : List Str, VRs K H (ys.map D.str) (ys.map V.str)
  | [] => .nil
  | y :: r => .cons (.str y) (vrs_strs r)
theorem TupS.vr {K : PySem.W.Frag} {x : Str} {ys : List Str} (T : TupS K x ys) (H : Hp) : VR K H (.tup (ys.map D.str)) (.ref (He.ga K x)) := by
  obtain ⟨sl, its, n, h1, h2, h3⟩ := T.ex
  exact .tup (.inr ⟨none, sl, its, n, h1, h2, h3⟩) (vrs_strs ys)
theorem je_gtup {x : Str} {ys : List Str} (T : TupS X.K x ys) (h : X.mg x = some (.ref (He.ga X.K x))) (hg : Gl X x := by rfl) (hd : (x == ("__debug__" : Str)) = false := by decide +kernel) : JE X H0 (.Name x pos) (mC (.tup (ys.map D.str))) :=
  je_glob (v := .ref (He.ga X.K x)) h rfl (fun H => T.vr H) hg hd

/-! ### methods of the built-ins -/
def nTupIndex (ys : List Str) : D → Sto → NQ → Prop := fun y S Q => match y with
  | .str z => (match ys.findIdx? (fun x => decide (x = z)) with
    | some j => Q (.int (j : Nat)) S
    | none => False)
  | _ => False
def mTupIndex (ys : List Str) (m : NE) : NE := fun e S Q => m e S fun d S1 => nTupIndex ys d S1 Q
theorem je_tupIndex {x : Str} {ys : List Str} {p1 apos : Pos} (T : TupS X.K x ys) (h : X.mg x = some (.ref (He.ga X.K x))) (he : JE X H0 a ma) (hg : Gl X x := by rfl) (hd : (x == ("__debug__" : Str)) = false := by decide +kernel)
    (hbase : attributeBase (.Name x p1) "index" X.env (eval (.Name x p1) X.env) = eval (.Name x p1) X.env := by rfl)
    (hfew : ((backTo pos (starEach (a :: []) X.env)).all (fun x => !x.1) && (backToKw pos (keywordEach [] X.env)).all (fun x => x.1.isSome)
      && decide ((a :: []).length + ([] : List Keyword).length + (if ([] : List Keyword).isEmpty then 0 else 1) < 30)) = true := by rfl)
    (hline : (apos.endLine == pos.line) = true := by rfl) (hs : starEach (a :: []) X.env = (false, eval a X.env) :: starEach [] X.env := by rfl) (hplain : (backTo pos (starEach [] X.env)).any (·.1) = false := by rfl) :
    JE X H0 (.Call (.Attribute (.Name x p1) "index" apos) [a] [] pos) (mTupIndex ys ma) := by
  refine (pe_bm PySem.F.plainAttrs_tuple PySem.F.slot_tuple_index PySem.F.type_tuple_index mt_tup_index (pe_glob (v := .ref (He.ga X.K x)) hg h rfl hd) (ja_cons he ja_nil hs) hbase hfew hline hs hplain).imq fun σ H Q ⟨e, S, Q', A, m, k⟩ => ?_
  obtain ⟨sl, its, n, h1, h2, h3⟩ := T.ex
  refine ⟨.inr (.inl ⟨rfl, _, h1, rfl, rfl⟩), e, S, fun ds S1 => ∃ d, ds = [d] ∧ nTupIndex ys d S1 Q', A, ?_, fun ds S1 vs H1 x1 s1 r ⟨d, ed, q⟩ => ?_⟩
  · have : (fun d S1 => ∃ d', [d] = [d'] ∧ nTupIndex ys d' S1 Q') = fun d S1 => nTupIndex ys d S1 Q' := by
      funext d S1
      exact propext ⟨fun ⟨d', e, q⟩ => by cases e; exact q, fun q => ⟨d, rfl, q⟩⟩
    exact (congrArg (ma e S) this).mpr m
  · subst ed
    obtain ⟨v, rfl, rv⟩ := vrs1 r
    unfold nTupIndex at q
    split at q
    · rename_i z _
      cases rv
      split at q
      · rename_i j ej
        obtain ⟨hj, e1, e2⟩ := List.findIdx?_eq_some_iff_getElem.mp ej
        refine ⟨_, ys, z, j, rfl, rfl, (TupR.sq (.inr ⟨none, sl, its, n, h1, h2, h3⟩)), ?_, fun i hi he => ?_, k _ _ _ _ x1 s1 (.int _) q⟩
        · rw [List.getElem?_eq_getElem hj, of_decide_eq_true e1]
        · obtain ⟨h5, h6⟩ := List.getElem?_eq_some_iff.mp he
          have := e2 i hi
          rw [h6] at this
          simp at this
      · exact q.elim
    · exact q.elim
/-- xs.index(y), flat items -/
def nIndex : D → D → Sto → NQ → Prop := fun x y S Q => match x with
  | .ref p => (match S p with
    | some (.lst ds) => flatD y = true ∧ ds.all flatD = true ∧ (match ds.findIdx? (fun d => eqF d y) with
      | some j => Q (.int (j : Nat)) S
      | none => False)
    | _ => False)
  | _ => False
/-- the receiver is a list, and stands -/
def mLm (n : D → List D → Sto → NQ → Prop) (mo : NE) (mr : NA) : NE := fun e S Q => mo e S fun x S1 => (∃ p ds, x = .ref p ∧ S1 p = some (.lst ds)) ∧ mr e S1 fun ds S2 => n x ds S2 Q
def OpM (K : PySem.W.Frag) (r : V → List V → Hp → VK → Prop) (n : D → List D → Sto → NQ → Prop) : Prop := ∀ x ys S Q vx vs H Q', SR K S H → VR K H x vx → VRs K H ys vs → n x ys S Q → (∀ d S' v H', HExt H H' → SR K S' H' → VR K H' d v → Q d S' → Q' v H') → r vx vs H Q'
theorem je_lm {name : Str} {id : String} {r : V → List V → Hp → VK → Prop} {n : D → List D → Sto → NQ → Prop} {apos : Pos} (slot : Slot "list" name id) (hty : typeOf (.builtin id) = pure (.type "method_descriptor")) (hm : MtR X id r) (hn : OpM X.K r n) (ho : JE X H0 o mo) (ha : JA X H0 (a :: es) mr)
    (hbase : attributeBase o name X.env (eval o X.env) = eval o X.env := by rfl)
    (hfew : ((backTo pos (starEach (a :: es) X.env)).all (fun x => !x.1) && (backToKw pos (keywordEach [] X.env)).all (fun x => x.1.isSome)
      && decide ((a :: es).length + ([] : List Keyword).length + (if ([] : List Keyword).isEmpty then 0 else 1) < 30)) = true := by rfl)
    (hline : (apos.endLine == pos.line) = true := by rfl) (hs : starEach (a :: es) X.env = (false, eval a X.env) :: starEach es X.env := by rfl) (hplain : (backTo pos (starEach es X.env)).any (·.1) = false := by rfl) :
    JE X H0 (.Call (.Attribute o name apos) (a :: es) [] pos) (mLm n mo mr) := by
  refine (pe_bm PySem.F.plainAttrs_list slot hty hm ho ha hbase hfew hline hs hplain).imq fun σ H Q ⟨e, S, Q', A, m, k⟩ => ?_
  refine ⟨e, S, _, A, m, fun x S1 vx H1 x1 s1 rx q => ?_⟩
  obtain ⟨⟨p, ds, rfl, e1⟩, q⟩ := q
  cases rx
  obtain ⟨vs0, g1, _⟩ := s1.lst e1
  refine ⟨.inl ⟨rfl, _, SqL.of g1⟩, e, S1, _, A.next x1 s1, q, fun ds S2 vs H2 x2 s2 rs q2 => ?_⟩
  exact hn (.ref p) ds S2 Q' _ vs H2 Q s2 (.ref p) rs q2 fun d S' v H' x3 s3 rd q3 => k d S' v H' ((x1.trans x2).trans x3) s3 rd q3
def nAppend : D → List D → Sto → NQ → Prop := fun x ys S Q => match x, ys with
  | .ref p, [y] => (match S p with
    | some (.lst ds) => ds.length < sizeLine ∧ Q .non (put S p (.lst (ds ++ [y])))
    | _ => False)
  | _, _ => False
theorem opM_append {K : PySem.W.Frag} : OpM K rAppend nAppend := fun x ys S Q vx vs H Q' s rx rs n k => by
  unfold nAppend at n
  split at n
  · rename_i p y
    cases rx
    obtain ⟨v, rfl, rv⟩ := vrs1 rs
    split at n
    · rename_i ds e1
      obtain ⟨ws, g1, r1⟩ := s.lst e1
      have x : HExt H (upd H p (.lst (ws ++ [v]))) := .upd g1 True.intro
      exact ⟨p, ws, v, rfl, rfl, g1, by rw [← r1.length]; exact n.1, k _ _ _ _ x (s.put (o := .lst (ds ++ [y])) x ⟨_, upd_same, (r1.append (.cons rv .nil)).ext x⟩) .non n.2⟩
    · exact n.elim
  · exact n.elim
theorem je_append {apos : Pos} (ho : JE X H0 o mo) (ha : JA X H0 (a :: es) mr)
    (hbase : attributeBase o "append" X.env (eval o X.env) = eval o X.env := by rfl)
    (hfew : ((backTo pos (starEach (a :: es) X.env)).all (fun x => !x.1) && (backToKw pos (keywordEach [] X.env)).all (fun x => x.1.isSome)
      && decide ((a :: es).length + ([] : List Keyword).length + (if ([] : List Keyword).isEmpty then 0 else 1) < 30)) = true := by rfl)
    (hline : (apos.endLine == pos.line) = true := by rfl) (hs : starEach (a :: es) X.env = (false, eval a X.env) :: starEach es X.env := by rfl) (hplain : (backTo pos (starEach es X.env)).any (·.1) = false := by rfl) :
    JE X H0 (.Call (.Attribute o "append" apos) (a :: es) [] pos) (mLm nAppend mo mr) :=
  je_lm PySem.F.slot_list_append PySem.F.type_list_append (r := rAppend) (fun pins s σ H x xs v us Q I rx rs h => mt_append pins s σ H x xs v us Q I rx rs h) opM_append ho ha hbase hfew hline hs hplain
def nIndexL : D → List D → Sto → NQ → Prop := fun x ys S Q => match ys with
  | [y] => nIndex x y S Q
  | _ => False
theorem opM_index {K : PySem.W.Frag} : OpM K (rIndex K) nIndexL := fun x ys S Q vx vs H Q' s rx rs n k => by
  unfold nIndexL nIndex at n
  split at n
  · rename_i y
    split at n
    · rename_i p
      cases rx
      obtain ⟨v, rfl, rv⟩ := vrs1 rs
      split at n
      · rename_i ds e1
        obtain ⟨ws, g1, r1⟩ := s.lst e1
        obtain ⟨n1, n2, n3⟩ := n
        split at n3
        · rename_i j ej
          obtain ⟨hj, e2, e3⟩ := List.findIdx?_eq_some_iff_getElem.mp ej
          obtain ⟨u, hu, ru⟩ := r1.get (List.getElem?_eq_getElem hj)
          have fl : ∀ i (hi : i < ds.length), flatD ds[i] = true := fun i hi => List.all_eq_true.mp n2 _ (List.getElem_mem hi)
          refine ⟨p, ws, v, j, u, rfl, rfl, SqL.of g1, flat_ok rv n1, flats_ok r1 n2, hu, ?_, fun i z hi hz => ?_, k _ _ _ _ (.refl H) s (.int _) n3⟩
          · rw [eqF_ok ru rv (fl j hj) n1]; exact e2
          · have hil : i < ds.length := Nat.lt_trans hi hj
            obtain ⟨u', hu', ru'⟩ := r1.get (List.getElem?_eq_getElem hil)
            rw [hz] at hu'
            cases hu'
            rw [eqF_ok ru' rv (fl i hil) n1]
            have := e3 i hi
            simpa using this
        · exact n3.elim
      · exact n.elim
    · exact n.elim
  · exact n.elim
theorem je_index {apos : Pos} (ho : JE X H0 o mo) (ha : JA X H0 (a :: es) mr)
    (hbase : attributeBase o "index" X.env (eval o X.env) = eval o X.env := by rfl)
    (hfew : ((backTo pos (starEach (a :: es) X.env)).all (fun x => !x.1) && (backToKw pos (keywordEach [] X.env)).all (fun x => x.1.isSome)
      && decide ((a :: es).length + ([] : List Keyword).length + (if ([] : List Keyword).isEmpty then 0 else 1) < 30)) = true := by rfl)
    (hline : (apos.endLine == pos.line) = true := by rfl) (hs : starEach (a :: es) X.env = (false, eval a X.env) :: starEach es X.env := by rfl) (hplain : (backTo pos (starEach es X.env)).any (·.1) = false := by rfl) :
    JE X H0 (.Call (.Attribute o "index" apos) (a :: es) [] pos) (mLm nIndexL mo mr) :=
  je_lm PySem.F.slot_list_index PySem.F.type_list_index mt_index opM_index ho ha hbase hfew hline hs hplain

/-! ### a dict, displayed -/
def mPairs : List (Key × NE) → Env → Sto → (List (Key × D) → Sto → Prop) → Prop
  | [], _, S, Q => Q [] S
  | (k, m) :: r, e, S, Q => m e S fun d S1 => mPairs r e S1 fun ps S2 => Q ((k, d) :: ps) S2
def mergeD (kvs more : List (Key × D)) : List (Key × D) := more.foldl (fun acc kv => dput acc kv.1 kv.2) kvs
def mDisp (ps : List (Key × NE)) : NE := fun e S Q => ∀ p, S p = none → mPairs ps e (put S p (.dic [])) fun kvs S2 => S2 p = some (.dic []) ∧ kvs.length ≤ 15 ∧ Q (.ref p) (put S2 p (.dic (mergeD [] kvs)))
structure JPs (X : Cx) (H0 : Hp) (pos : Pos) (keys : List (Option Expr)) (values : List Expr) (ps : List (Key × NE)) : Prop where
  ex : ∃ trs, PPs X pos keys values trs ∧ ∀ σ H (Q : List (V × V) → Hp → Prop) e S Q', At X.K H0 H σ e S → mPairs ps e S Q' → (∀ kvs S' ws H', HExt H H' → SR X.K S' H' → KVR X.K H' kvs ws → Q' kvs S' → Q (ws.map fun kv => (kV kv.1, kv.2)) H') → tPairs trs σ H Q
theorem jps_nil : JPs X H0 pos [] [] [] := ⟨[], pps_nil, fun σ H Q e S Q' A m k => k [] S [] H (.refl H) A.s .nil m⟩
theorem jps_cons {x : Str} {j : Nat} {kp : Pos} {ks : List (Option Expr)} {vs : List Expr} {ps : List (Key × NE)} {v : Expr} {mv : NE} (hv : JE X H0 v mv) (hr : JPs X H0 pos ks vs ps) : JPs X H0 pos (some (.Constant (.str x) j kp) :: ks) (v :: vs) ((.inr x, mv) :: ps) := by
  obtain ⟨trs, h1, h2⟩ := hr.ex
  refine ⟨_, pps_cons pe_str hv h1, fun σ H Q e S Q' A m k => ?_⟩
  refine ⟨e, S, _, A, m, fun d S1 vd H1 x1 s1 rd m1 => ?_⟩
  refine h2 σ H1 _ e S1 _ (A.next x1 s1) m1 fun kvs S' ws H' x2 s2 r q => ?_
  exact k ((.inr x, d) :: kvs) S' ((.inr x, vd) :: ws) H' (x1.trans x2) s2 (.cons ⟨rfl, rd.ext x2⟩ r) q
theorem merge_ok {K : PySem.W.Frag} {H : Hp} : ∀ {more : List (Key × D)} {wm : List (Key × V)} {kvs : List (Key × D)} {ws : List (Key × V)}, KVR K H more wm → KVR K H kvs ws → KVR K H (mergeD kvs more) (mergeK ws wm)
  | _, _, _, _, .nil, r => r
  | p :: ps, q :: qs, _, _, .cons h t, r => by
    show KVR K H (mergeD (dput _ p.1 p.2) ps) (mergeK (putK _ q.1 q.2) qs)
    refine merge_ok t ?_
    rw [← h.1]
    exact dput_ok r p.1 h.2
theorem je_disp {keys : List (Option Expr)} {values : List Expr} {ps : List (Key × NE)} (h : JPs X H0 pos keys values ps) (hall : keys.all (·.isSome) = true := by rfl) (hl : keys.length = values.length := by rfl) (h0 : keys ≠ [] := by intro z; cases z) (h15 : keys.length ≤ 15 := by decide) :
    JE X H0 (.Dict keys values pos) (mDisp ps) := by
  obtain ⟨trs, h1, h2⟩ := h.ex
  refine (pe_disp h1 hall hl h0 h15).imq fun σ H Q ⟨e, S, Q', A, m, k⟩ p np => ?_
  have x0 : HExt H (upd H p (.dK [])) := .new np
  have s0 : SR X.K (put S p (.dic [])) (upd H p (.dK [])) := A.s.put (o := .dic []) x0 ⟨[], upd_same, .nil⟩
  refine h2 σ _ _ e _ _ (A.next x0 s0) (m p (A.s.fresh np)) fun kvs S' ws H' x1 s1 r q => ?_
  obtain ⟨q1, q2, q3⟩ := q
  obtain ⟨w0, g0, r0⟩ := s1.dic q1
  cases r0
  refine ⟨g0, ws, rfl, by rw [← Paired.length r]; exact q2, ?_⟩
  have x2 : HExt H' (upd H' p (.dK (mergeK [] ws))) := .upd g0 True.intro
  exact k _ _ _ _ ((x0.trans x1).trans x2) (s1.put (o := .dic (mergeD [] kvs)) x2 ⟨_, upd_same, KVR.ext x2 (merge_ok r .nil)⟩) (.ref p) q3

/-! ### a field, op= -/
def sFldAugN (f : Str) (mo mv : NE) (n : N2) : NS := fun Z e S => mo e S fun x S1 => match x with
  | .ref p => (match S1 p with
    | some (.ins c fs) => (match fs.lookup f with
      | some v => mv e S1 fun y S2 => n v y S2 fun z S3 => (match S3 p with
        | some (.ins c' fs') => c' = c ∧ fs'.length < 1000 ∧ Z.nx e (put S3 p (.ins c (putD f z fs')))
        | _ => False)
      | none => False)
    | _ => False)
  | _ => False
theorem js_fldaug {f : Str} {op : Operator} {n : N2} {rd : R2} {value : Expr} {mv : NE} {tpos : Pos} (ho : JE X H0 o mo) (hv : JE X H0 value mv) (hop : InOp X op rd) (hn : Op2 X.K rd n) (hf : f ∈ FN := by decide +kernel) : JS X H0 (.AugAssign (.Attribute o f tpos) op value pos) (sFldAugN f mo mv n) := by
  refine (ps_fldaug ho hv hop).imq fun D σ H ⟨e, S, D', A, m, k⟩ => ?_
  refine ⟨e, S, _, A, m, fun x S1 vx H1 x1 s1 rx q => ?_⟩
  split at q
  · rename_i p
    cases rx
    split at q
    · rename_i c fs e1
      obtain ⟨dx, ws, g1, r1, co⟩ := s1.ins e1
      split at q
      · rename_i d ed
        obtain ⟨v, g2, g3⟩ := (KVR.look (f := f) r1).1 d ed
        refine ⟨p, _, dx, ws, v, rfl, g1, co.cl, co.no f hf, g2, ?_⟩
        refine ⟨e, S1, _, A.next x1 s1, q, fun y S2 vy H2 x2 s2 ry q2 => ?_⟩
        refine hn d y S2 _ v vy H2 _ s2 (g3.ext x2) ry q2 fun z S3 vz H3 x3 s3 rz q3 => ?_
        split at q3
        · rename_i c' fs' e2
          obtain ⟨rfl, q4, q5⟩ := q3
          obtain ⟨dx', ws', g4, r4, co'⟩ := s3.ins e2
          obtain ⟨x4, s4⟩ := s3.setIns (f := f) g4 r4 co' rz
          have xx := ((x1.trans x2).trans x3).trans x4
          exact ⟨dx', ws', g4, by have := Paired.length r4; omega, k.nx _ _ _ _ xx (A.next xx s4) q5⟩
        · exact q3.elim
      · exact q.elim
    · exact q.elim
  · exact q.elim
theorem op2_add {K : PySem.W.Frag} : Op2 K rAdd (nInt0 fun i j => .int (i + j)) := fun x y S Q vx vy H Q' s rx ry n k => by
  unfold nInt0 at n
  split at n
  · cases rx; cases ry
    exact ⟨_, _, rfl, rfl, k _ _ _ _ (.refl H) s (.int _) n⟩
  · exact n.elim
theorem op2_sub {K : PySem.W.Frag} : Op2 K rSub (nInt0 fun i j => .int (i - j)) := fun x y S Q vx vy H Q' s rx ry n k => by
  unfold nInt0 at n
  split at n
  · cases rx; cases ry
    exact ⟨_, _, rfl, rfl, k _ _ _ _ (.refl H) s (.int _) n⟩
  · exact n.elim
end
end N

set_option Elab.async false
set_option linter.all false
set_option maxRecDepth 100000
set_option maxHeartbeats 4000000
namespace N
variable [TabList]
open PySem PySem.Spec PyProof.Rows L2

/-! ### what is walked, in general -/
abbrev NI := Env → Sto → (List D → Keep → Sto → Prop) → Prop
/-- the walk J gives the items ds, as long as kp -/
structure ItR (K : PySem.W.Frag) (H1 : Hp) (J : It) (ds : List D) (kp : Keep) : Prop where
  stop : ∀ H S, HExt H1 H → SR K S H → kp S → J.stop ds.length H
  go : ∀ i H S, i < ds.length → HExt H1 H → SR K S H → kp S → J.go i H
  yld : ∀ i H S x H' d, ds[i]? = some d → HExt H1 H → SR K S H → kp S → J.yld i H x H' → HExt H H' ∧ SR K S H' ∧ VR K H' d x
def lI (K : PySem.W.Frag) (H0 : Hp) (m : NI) : TI := fun σ H R => ∃ e S Q', At K H0 H σ e S ∧ m e S Q' ∧ ∀ ds kp S1 H1 J, HExt H H1 → SR K S1 H1 → kp S1 → Q' ds kp S1 → ItR K H1 J ds kp → R J H1
abbrev JI (X : Cx) (H0 : Hp) (tg e : Expr) (m : NI) : Prop := PI X tg e (lI X.K H0 m)
theorem _root_.L2.PI.imq {X : Cx} {tg e : Expr} {t t' : TI} (h : PI X tg e t) (i : ∀ σ H R, t' σ H R → t σ H R) : PI X tg e t' := ⟨fun pins s σ H R I q => h.run pins s σ H R I (i _ _ _ q)⟩
section
variable {X : Cx} {H0 : Hp} {w : NW} {a b c o : Expr} {ma mb mo : NE} {pos : Pos} {es : List Expr} {mr : NA}
theorem itr_tup {K : PySem.W.Frag} {H1 : Hp} {p : Addr} {vs : List V} {ds : List D} (tr : TupR K H1 p vs) (rr : VRs K H1 ds vs) : ItR K H1 (Itt K p) ds fun _ => True := by
  refine ⟨fun H2 S2 x s _ => ⟨vs, (tr.ext x).sq, by rw [← rr.length]; exact Nat.le_refl _⟩, fun i H2 S2 hi x s _ => ?_, fun i H2 S2 y H3 d hd x s _ yl => ?_⟩
  · obtain ⟨v, hv, _⟩ := rr.get (List.getElem?_eq_getElem hi)
    exact ⟨vs, v, (tr.ext x).sq, hv⟩
  · obtain ⟨rfl, yl⟩ := yl
    obtain ⟨v, hv, rv⟩ := rr.get hd
    have := yl vs (tr.ext x).sq
    rw [hv] at this
    cases this
    exact ⟨.refl _, s, rv.ext x⟩
theorem itr_rol {K : PySem.W.Frag} {H1 : Hp} {p : Addr} {vs : List V} {ds : List D} (tr : RolR K H1 p vs) (rr : VRs K H1 ds vs) : ItR K H1 (Itl K p) ds fun _ => True := by
  refine ⟨fun H2 S2 x s _ => ⟨vs, (tr.ext x).sq, by rw [← rr.length]; exact Nat.le_refl _⟩, fun i H2 S2 hi x s _ => ?_, fun i H2 S2 y H3 d hd x s _ yl => ?_⟩
  · obtain ⟨v, hv, _⟩ := rr.get (List.getElem?_eq_getElem hi)
    exact ⟨vs, v, (tr.ext x).sq, hv⟩
  · obtain ⟨rfl, yl⟩ := yl
    obtain ⟨v, hv, rv⟩ := rr.get hd
    have := yl vs (tr.ext x).sq
    rw [hv] at this
    cases this
    exact ⟨.refl _, s, rv.ext x⟩
theorem itr_lst {K : PySem.W.Frag} {H1 : Hp} {p : Addr} {ds : List D} : ItR K H1 (Itl K p) ds fun S' => S' p = some (.lst ds) := by
  refine ⟨fun H2 S2 x s kk => ?_, fun i H2 S2 hi x s kk => ?_, fun i H2 S2 y H3 d hd x s kk yl => ?_⟩
  · obtain ⟨vs, g1, rr⟩ := s.lst kk
    exact ⟨vs, SqL.of g1, by rw [← rr.length]; exact Nat.le_refl _⟩
  · obtain ⟨vs, g1, rr⟩ := s.lst kk
    obtain ⟨v, hv, _⟩ := rr.get (List.getElem?_eq_getElem hi)
    exact ⟨vs, v, SqL.of g1, hv⟩
  · obtain ⟨vs, g1, rr⟩ := s.lst kk
    obtain ⟨rfl, yl⟩ := yl
    obtain ⟨v, hv, rv⟩ := rr.get hd
    have := yl vs (SqL.of g1)
    rw [hv] at this
    cases this
    exact ⟨.refl _, s, rv⟩
theorem itr_rng {K : PySem.W.Frag} {H1 : Hp} {lo : Int} {n : Nat} : ItR K H1 (Itr lo n) (rangeD lo n) fun _ => True := by
  refine ⟨fun H S x s _ => Nat.le_of_eq rangeD_length.symm, fun i H S hi x s _ => ?_, fun i H S y H' d hd x s _ yl => ?_⟩
  · rw [rangeD_length] at hi; exact hi
  · obtain ⟨rfl, rfl⟩ := yl
    obtain ⟨_, rfl⟩ := rangeD_get hd
    exact ⟨.refl _, s, .int _⟩
/-- what a walk finds: a list, a tuple, a text's signs -/
def signsD (z : Str) : List D := z.cps.toList.map fun c => .str ⟨#[c]⟩
def nWalkA : D → Sto → (List D → Keep → Prop) → Prop := fun x S Q => match x with
  | .tup ds => Q ds fun _ => True
  | .rol ds => Q ds fun _ => True
  | .str z => Q (signsD z) fun _ => True
  | .ref p => (match S p with
    | some (.lst ds) => Q ds fun S' => S' p = some (.lst ds)
    | _ => False)
  | _ => False
def iWalk (m : NE) : NI := fun e S Q => m e S fun x S1 => nWalkA x S1 fun ds kp => Q ds kp S1
theorem itr_str {K : PySem.W.Frag} {H1 : Hp} {z : Str} : ItR K H1 (Its z) (signsD z) fun _ => True := by
  refine ⟨fun H S _ _ _ => ?_, fun i H S hi _ _ _ => ?_, fun i H S y H' d hd _ s _ yl => ?_⟩
  · show z.cps.size ≤ (signsD z).length
    unfold signsD; simp
  · unfold signsD at hi
    show i < z.cps.size
    simpa using hi
  · obtain ⟨rfl, c, hc, rfl⟩ := yl
    unfold signsD at hd
    rw [List.getElem?_map] at hd
    have : z.cps.toList[i]? = some c := by simpa using hc
    rw [this] at hd
    cases hd
    exact ⟨.refl _, s, .str _⟩
def iAnyS (K : PySem.W.Frag) (tl : TE) : TI := fun σ H R => tl σ H fun x H1 => (∃ p, x = .ref p ∧ (((∃ xs, SqL K H1 p xs) ∧ R (Itl K p) H1) ∨ ((∃ xs, SqT K H1 p xs) ∧ R (Itt K p) H1))) ∨ ∃ z, x = .str z ∧ R (Its z) H1
theorem pi_any {tg l : Expr} {tl : TE} (hl : PE X l tl) : PI X tg l (iAnyS X.K tl) := by
  refine ⟨fun pins s σ H R I h => ?_⟩
  refine thn (hl.run pins s σ H _ I h) fun v s1 ⟨x, H1, I1, r1, q1⟩ => ?_
  rcases q1 with ⟨p, e, ⟨⟨xs, hq⟩, q⟩ | ⟨⟨xs, hq⟩, q⟩⟩ | ⟨z, e, q⟩
  · subst e
    cases r1
    obtain ⟨its, rv, p, hz⟩ := I1.list hq
    refine wpAny_pyIter_list p.isList ?_
    refine ⟨s1.heap.objs.size, [s1.heap.objs.size], _, _, H1, rfl, I1.kept (t' := s1.toks) fun b o e => Heap.get?_push_of_some _ e, turn_list _ _, ⟨_, Heap.get?_push_size _ rfl, rfl, rfl⟩, fun b hb => ?_, q⟩
    have e : b = s1.heap.objs.size := by simpa using hb
    subst e
    exact I1.fpOk (Nat.le_refl _) (I1.hok.fresh (Nat.le_refl _))
  · subst e
    cases r1
    obtain ⟨its, rv, p, hz⟩ := I1.tuple hq
    refine wpAny_pyIter_tuple (show s1.heap.IsTuple _ its.toArray from p) ?_
    refine ⟨s1.heap.objs.size, [s1.heap.objs.size], _, _, H1, rfl, I1.kept (t' := s1.toks) fun b o e => Heap.get?_push_of_some _ e, turn_tuple _ _, ⟨_, Heap.get?_push_size _ rfl, rfl, rfl⟩, fun b hb => ?_, q⟩
    have e : b = s1.heap.objs.size := by simpa using hb
    subst e
    exact I1.fpOk (Nat.le_refl _) (I1.hok.fresh (Nat.le_refl _))
  · subst e
    obtain ⟨t, rfl⟩ := r1
    cases ha : z.cps.all (· < 128)
    · exact wpAny_pyIter_wide ha (pi_one (tk := s1.toks) I1 _ (turn_str _ z t "str_iterator" (.inr rfl)) ⟨_, Heap.get?_push_size _ rfl, rfl, rfl⟩ q)
    · exact wpAny_pyIter_ascii ha (pi_one (tk := s1.toks) I1 _ (turn_str _ z t "str_ascii_iterator" (.inl rfl)) ⟨_, Heap.get?_push_size _ rfl, rfl, rfl⟩ q)
theorem ji_seq {tg : Expr} (ha : JE X H0 a ma) : JI X H0 tg a (iWalk ma) := by
  refine (pi_any (tg := tg) ha).imq fun σ H R ⟨e, S, Q', A, m, k⟩ => ?_
  refine ⟨e, S, _, A, m, fun x S1 v H1 x1 s1 r m1 => ?_⟩
  unfold nWalkA at m1
  split at m1
  · cases r with
    | tup tr rr => exact .inl ⟨_, rfl, .inr ⟨⟨_, tr.sq⟩, k _ _ _ _ _ x1 s1 True.intro m1 (itr_tup tr rr)⟩⟩
  · cases r with
    | rol tr rr => exact .inl ⟨_, rfl, .inl ⟨⟨_, tr.sq⟩, k _ _ _ _ _ x1 s1 True.intro m1 (itr_rol tr rr)⟩⟩
  · cases r
    exact .inr ⟨_, rfl, k _ _ _ _ _ x1 s1 True.intro m1 itr_str⟩
  · rename_i p
    cases r
    split at m1
    · rename_i ds e1
      obtain ⟨vs0, g0, _⟩ := s1.lst e1
      exact .inl ⟨p, rfl, .inl ⟨⟨vs0, SqL.of g0⟩, k _ _ _ _ _ x1 s1 e1 m1 itr_lst⟩⟩
    · exact m1.elim
  · exact m1.elim
def iRg1 (m : NE) : NI := fun e S Q => m e S fun x S1 => match x with
  | .int j => RngOk j ∧ Q (rangeD 0 j.toNat) (fun _ => True) S1
  | _ => False
def iRg2 (m m' : NE) : NI := fun e S Q => m e S fun x S1 => m' e S1 fun y S2 => match x, y with
  | .int i, .int j => (RngOk i ∧ RngOk j) ∧ Q (rangeD i (j - i).toNat) (fun _ => True) S2
  | _, _ => False
theorem ji_rng1 {tg : Expr} {p rpos : Pos} (hm : X.mg "range" = none) (ha : JE X H0 a ma) (hgl : Gl X "range" := by rfl) (hsr : starEach [a] X.env = [(false, eval a X.env)] := by rfl) (hs1 : starEach [a] X.env = (false, eval a X.env) :: starEach [] X.env := by rfl) :
    JI X H0 tg (.Call (.Name "range" p) [a] [] rpos) (iRg1 ma) := by
  refine (pi_range1 hgl hm (ja_cons ha ja_nil hs1) hsr).imq fun σ H R ⟨e, S, Q', A, m, k⟩ => ?_
  refine ⟨e, S, (fun ds S1 => ∃ x, ds = [x] ∧ match x with
    | .int j => RngOk j ∧ Q' (rangeD 0 j.toNat) (fun _ => True) S1
    | _ => False), A, ?_, fun ds S1 vs H1 x1 s1 r ⟨x, ed, m1⟩ => ?_⟩
  · show ma e S _
    unfold iRg1 at m
    have : (fun x S1 => ∃ x_1, [x] = [x_1] ∧ match x_1 with
      | D.int j => RngOk j ∧ Q' (rangeD 0 j.toNat) (fun _ => True) S1
      | _ => False) = (fun x S1 => match x with
      | D.int j => RngOk j ∧ Q' (rangeD 0 j.toNat) (fun _ => True) S1
      | _ => False) := by
      funext x S1
      exact propext ⟨fun ⟨y, e, q⟩ => by cases e; exact q, fun q => ⟨x, rfl, q⟩⟩
    exact (congrArg (ma e S) this).mpr m
  · subst ed
    obtain ⟨v, rfl, rv⟩ := vrs1 r
    cases x with
    | int j =>
      cases rv
      exact ⟨j, rfl, m1.1.1, m1.1.2, k _ _ _ _ _ x1 s1 True.intro m1.2 itr_rng⟩
    | _ => exact m1.elim
theorem ji_rng2 {tg : Expr} {p rpos : Pos} (hm : X.mg "range" = none) (ha : JE X H0 a ma) (hb : JE X H0 b mb) (hgl : Gl X "range" := by rfl) (hs1 : starEach [a, b] X.env = [(false, eval a X.env), (false, eval b X.env)] := by rfl) (hs2 : starEach [b] X.env = [(false, eval b X.env)] := by rfl)
    (hsa : starEach [a, b] X.env = (false, eval a X.env) :: starEach [b] X.env := by rfl) (hsb : starEach [b] X.env = (false, eval b X.env) :: starEach [] X.env := by rfl) :
    JI X H0 tg (.Call (.Name "range" p) [a, b] [] rpos) (iRg2 ma mb) := by
  refine (pi_range2 hgl hm (ja_cons ha (ja_cons hb ja_nil hsb) hsa) hs1 hs2).imq fun σ H R ⟨e, S, Q', A, m, k⟩ => ?_
  refine ⟨e, S, (fun ds S1 => ∃ x y, ds = [x, y] ∧ match x, y with
    | .int i, .int j => (RngOk i ∧ RngOk j) ∧ Q' (rangeD i (j - i).toNat) (fun _ => True) S1
    | _, _ => False), A, ?_, fun ds S1 vs H1 x1 s1 r ⟨x, y, ed, m1⟩ => ?_⟩
  · show ma e S _
    unfold iRg2 at m
    have : (fun x S1 => mb e S1 fun y S2 => ∃ x_1 y_1, [x, y] = [x_1, y_1] ∧ match x_1, y_1 with
      | D.int i, D.int j => (RngOk i ∧ RngOk j) ∧ Q' (rangeD i (j - i).toNat) (fun _ => True) S2
      | _, _ => False) = (fun x S1 => mb e S1 fun y S2 => match x, y with
      | D.int i, D.int j => (RngOk i ∧ RngOk j) ∧ Q' (rangeD i (j - i).toNat) (fun _ => True) S2
      | _, _ => False) := by
      funext x S1
      congr 1
      funext y S2
      exact propext ⟨fun ⟨x', y', e, q⟩ => by cases e; exact q, fun q => ⟨x, y, rfl, q⟩⟩
    exact (congrArg (ma e S) this).mpr m
  · subst ed
    obtain ⟨v, u, rfl, rv, ru⟩ := vrs2 r
    cases x with
    | int i =>
      cases y with
      | int j =>
        cases rv; cases ru
        exact ⟨i, j, rfl, ⟨m1.1.1.1, m1.1.1.2, m1.1.2.1, m1.1.2.2⟩, k _ _ _ _ _ x1 s1 True.intro m1.2 itr_rng⟩
      | _ => exact m1.elim
    | _ => exact m1.elim
/-- enumerate of a list, zip of two lists -/
def enumD : List D → Nat → List D
  | [], _ => []
  | d :: r, i => .tup [.int i, d] :: enumD r (i + 1)
theorem enumD_get : ∀ {ds : List D} {n i : Nat} {d : D}, (enumD ds n)[i]? = some d → ∃ y, ds[i]? = some y ∧ d = .tup [.int (n + i : Nat), y]
  | [], _, _, _, h => by cases h
  | y :: r, n, 0, d, h => ⟨y, rfl, by simp [enumD] at h; rw [← h]; simp⟩
  | y :: r, n, i + 1, d, h => by
    obtain ⟨y', h1, h2⟩ := enumD_get (ds := r) (n := n + 1) (i := i) (by simpa [enumD] using h)
    exact ⟨y', by simpa using h1, by rw [h2]; congr 3; omega⟩
theorem enumD_length : ∀ {ds : List D} {n : Nat}, (enumD ds n).length = ds.length
  | [], _ => rfl
  | _ :: r, n => by simp [enumD, enumD_length (ds := r)]
/-- the list's place, its items, how it is held -/
def nLstAt : D → Sto → (List D → Keep → Prop) → Prop := fun x S Q => match x with
  | .rol ds => Q ds fun _ => True
  | .ref p => (match S p with
    | some (.lst ds) => Q ds fun S' => S' p = some (.lst ds)
    | _ => False)
  | _ => False
/-- a list, read at any time of the walk -/
structure LstR (K : PySem.W.Frag) (H1 : Hp) (p : Addr) (ds : List D) (kp : Keep) : Prop where
  rd : ∀ H S, HExt H1 H → SR K S H → kp S → ∃ vs, SqL K H p vs ∧ VRs K H ds vs
theorem lstAt_ok {K : PySem.W.Frag} {x : D} {S : Sto} {H : Hp} {v : V} {Q : List D → Keep → Prop} (s : SR K S H) (r : VR K H x v) (m : nLstAt x S Q) : ∃ p ds kp, v = .ref p ∧ Q ds kp ∧ kp S ∧ LstR K H p ds kp := by
  unfold nLstAt at m
  split at m
  · cases r with
    | rol tr rr => exact ⟨_, _, _, rfl, m, True.intro, ⟨fun H' S' x s _ => ⟨_, (tr.ext x).sq, rr.ext x⟩⟩⟩
  · rename_i p
    cases r
    split at m
    · rename_i ds e1
      refine ⟨p, ds, _, rfl, m, e1, ⟨fun H' S' x s' kk => ?_⟩⟩
      obtain ⟨vs, g1, rr⟩ := s'.lst kk
      exact ⟨vs, SqL.of g1, rr⟩
    · exact m.elim
  · exact m.elim
theorem new_pair {K : PySem.W.Frag} {S : Sto} {H : Hp} {T : Addr} {v u : V} {d e : D} (s : SR K S H) (n : H T = none) (rv : VR K H d v) (ru : VR K H e u) : HExt H (upd H T (.tup [v, u])) ∧ SR K S (upd H T (.tup [v, u])) ∧ VR K (upd H T (.tup [v, u])) (.tup [d, e]) (.ref T) :=
  ⟨.new n, s.more n, .tup (.inl upd_same) (.cons (rv.ext (.new n)) (.cons (ru.ext (.new n)) .nil))⟩
def iEnumN (m : NE) : NI := fun e S Q => m e S fun x S1 => nLstAt x S1 fun ds kp => Q (enumD ds 0) kp S1
theorem one_arg {K : PySem.W.Frag} {m : NE} {e : Env} {S : Sto} {P : D → Sto → Prop} (h : m e S P) : mCons m mNil e S fun ds S1 => ∃ x, ds = [x] ∧ P x S1 := by
  show m e S _
  have : (fun x S1 => ∃ x_1, [x] = [x_1] ∧ P x_1 S1) = P := by
    funext x S1
    exact propext ⟨fun ⟨y, e, q⟩ => by cases e; exact q, fun q => ⟨x, rfl, q⟩⟩
  exact (congrArg (m e S) this).mpr h
theorem two_args {K : PySem.W.Frag} {m m' : NE} {e : Env} {S : Sto} {P : D → D → Sto → Prop} (h : m e S fun x S1 => m' e S1 fun y S2 => P x y S2) : mCons m (mCons m' mNil) e S fun ds S1 => ∃ x y, ds = [x, y] ∧ P x y S1 := by
  show m e S _
  have : (fun x S1 => m' e S1 fun y S2 => ∃ x_1 y_1, [x, y] = [x_1, y_1] ∧ P x_1 y_1 S2) = fun x S1 => m' e S1 fun y S2 => P x y S2 := by
    funext x S1
    congr 1
    funext y S2
    exact propext ⟨fun ⟨x', y', e, q⟩ => by cases e; exact q, fun q => ⟨x, y, rfl, q⟩⟩
  exact (congrArg (m e S) this).mpr h
theorem ji_enum {p rpos tpos : Pos} {elts : List Expr} {kk : Nat} (hm : X.mg "enumerate" = none) (ha : JE X H0 a ma) (hgl : Gl X "enumerate" := by rfl) (hs : starEach [a] X.env = [(false, eval a X.env)] := by rfl) (hs1 : starEach [a] X.env = (false, eval a X.env) :: starEach [] X.env := by rfl) :
    JI X H0 (.Tuple elts kk tpos) (.Call (.Name "enumerate" p) [a] [] rpos) (iEnumN ma) := by
  refine (pi_enum hgl hm (ja_cons ha ja_nil hs1) hs).imq fun σ H R ⟨e, S, Q', A, m, k⟩ => ?_
  refine ⟨e, S, _, A, one_arg (K := X.K) m, fun ds S1 vs H1 x1 s1 r ⟨x, ed, m1⟩ => ?_⟩
  subst ed
  obtain ⟨v, rfl, rv⟩ := vrs1 r
  obtain ⟨p, ds, kp, rfl, q, kk, L⟩ := lstAt_ok s1 rv m1
  obtain ⟨vs, h1, _⟩ := L.rd H1 S1 (.refl _) s1 kk
  refine ⟨p, vs, rfl, h1, k _ _ _ _ _ x1 s1 kk q ⟨fun H S x s kk => ?_, fun i H S hi x s kk => ?_, fun i H S y H' d hd x s kk yl => ?_⟩⟩
  · obtain ⟨vs, h1, h2⟩ := L.rd H S x s kk
    exact ⟨vs, h1, by rw [enumD_length, h2.length]; exact Nat.le_refl _⟩
  · obtain ⟨vs, h1, h2⟩ := L.rd H S x s kk
    rw [enumD_length] at hi
    obtain ⟨v, hv, _⟩ := h2.get (List.getElem?_eq_getElem hi)
    exact ⟨vs, v, h1, hv⟩
  · obtain ⟨vs, h1, h2⟩ := L.rd H S x s kk
    obtain ⟨T, u, rfl, nT, rfl, yl⟩ := yl
    obtain ⟨z, hz, rfl⟩ := enumD_get hd
    obtain ⟨v, hv, rv⟩ := h2.get hz
    have := yl vs h1
    rw [hv] at this
    cases this
    have := new_pair (d := .int ((0 + i : Nat) : Int)) s nT (.int _) rv
    rw [Nat.zero_add] at this ⊢
    exact this
def zipD : List D → List D → List D
  | x :: xs, y :: ys => .tup [x, y] :: zipD xs ys
  | _, _ => []
theorem zipD_get : ∀ {xs ys : List D} {i : Nat} {d : D}, (zipD xs ys)[i]? = some d → ∃ x y, xs[i]? = some x ∧ ys[i]? = some y ∧ d = .tup [x, y]
  | [], _, _, _, h => by simp [zipD] at h
  | _ :: _, [], _, _, h => by simp [zipD] at h
  | x :: xs, y :: ys, 0, d, h => ⟨x, y, rfl, rfl, by simp [zipD] at h; exact h.symm⟩
  | x :: xs, y :: ys, i + 1, d, h => by
    obtain ⟨x', y', h1, h2, h3⟩ := zipD_get (xs := xs) (ys := ys) (i := i) (by simpa [zipD] using h)
    exact ⟨x', y', by simpa using h1, by simpa using h2, h3⟩
theorem zipD_length : ∀ {xs ys : List D}, (zipD xs ys).length = min xs.length ys.length
  | [], ys => by simp [zipD]
  | _ :: _, [] => by simp [zipD]
  | x :: xs, y :: ys => by simp [zipD, zipD_length (xs := xs) (ys := ys)]
def iZipN (m m' : NE) : NI := fun e S Q => m e S fun x S1 => m' e S1 fun y S2 => nLstAt x S2 fun ds kp => nLstAt y S2 fun es kp' => Q (zipD ds es) (fun S' => kp S' ∧ kp' S') S2
theorem ji_zip {p rpos tpos : Pos} {elts : List Expr} {kk : Nat} (hm : X.mg "zip" = none) (ha : JE X H0 a ma) (hb : JE X H0 b mb) (hgl : Gl X "zip" := by rfl) (hs : starEach [a, b] X.env = (false, eval a X.env) :: starEach [b] X.env := by rfl) (hpl : (backTo rpos (starEach [b] X.env)).any (·.1) = false := by rfl) (hsb : starEach [b] X.env = (false, eval b X.env) :: starEach [] X.env := by rfl) :
    JI X H0 (.Tuple elts kk tpos) (.Call (.Name "zip" p) [a, b] [] rpos) (iZipN ma mb) := by
  refine (pi_zip hgl hm (ja_cons ha (ja_cons hb ja_nil hsb) hs) hs hpl).imq fun σ H R ⟨e, S, Q', A, m, k⟩ => ?_
  refine ⟨e, S, _, A, two_args (K := X.K) m, fun ds S1 vs H1 x1 s1 r ⟨x, y, ed, m1⟩ => ?_⟩
  subst ed
  obtain ⟨v, u, rfl, rv, ru⟩ := vrs2 r
  obtain ⟨p, ds, kp, rfl, q, kk, L⟩ := lstAt_ok s1 rv m1
  obtain ⟨p', es, kp', rfl, q', kk', L'⟩ := lstAt_ok s1 ru q
  obtain ⟨vs, h1, _⟩ := L.rd H1 S1 (.refl _) s1 kk
  obtain ⟨us, h2, _⟩ := L'.rd H1 S1 (.refl _) s1 kk'
  refine ⟨p, p', vs, us, rfl, h1, h2, k _ _ _ _ _ x1 s1 ⟨kk, kk'⟩ q' ⟨fun H S x s kk => ?_, fun i H S hi x s kk => ?_, fun i H S y H' d hd x s kk yl => ?_⟩⟩
  · obtain ⟨vs, h1, r1⟩ := L.rd H S x s kk.1
    obtain ⟨us, h2, r2⟩ := L'.rd H S x s kk.2
    refine ⟨vs, us, h1, h2, ?_⟩
    rw [zipD_length, r1.length, r2.length]
    omega
  · obtain ⟨vs, h1, r1⟩ := L.rd H S x s kk.1
    obtain ⟨us, h2, r2⟩ := L'.rd H S x s kk.2
    rw [zipD_length] at hi
    obtain ⟨v, hv, _⟩ := r1.get (List.getElem?_eq_getElem (show i < ds.length by omega))
    obtain ⟨u, hu, _⟩ := r2.get (List.getElem?_eq_getElem (show i < es.length by omega))
    exact ⟨vs, us, v, u, h1, h2, hv, hu⟩
  · obtain ⟨vs, h1, r1⟩ := L.rd H S x s kk.1
    obtain ⟨us, h2, r2⟩ := L'.rd H S x s kk.2
    obtain ⟨T, a', b', rfl, nT, rfl, y1, y2⟩ := yl
    obtain ⟨x', y', hx, hy, rfl⟩ := zipD_get hd
    obtain ⟨v, hv, rv⟩ := r1.get hx
    obtain ⟨u, hu, ru⟩ := r2.get hy
    have e1 := y1 vs h1
    have e2 := y2 us h2
    rw [hv] at e1; rw [hu] at e2
    cases e1; cases e2
    exact new_pair s nT rv ru

/-! ### for, over anything -/
def sForI (mi : NI) (g : NG) (b : NS) : NS := fun Z e S => mi e S fun ds kp S1 => loopL g b Z kp ds e S1
theorem js_forI {tg it : Expr} {g : NG} {mi : NI} {body : List Stmt} {t : NS} (cx : NX X H0 w) (hl : JI X H0 tg it mi) (hg : JG X H0 tg g) (hb : JSs X H0 body t) (hs : ∀ x, foldedSetIterable it X.env x = pure x := by intro _; rfl) : JS X H0 (.For tg it body [] pos) (sForI mi g t) := by
  refine (ps_for cx.po cx.calm hl hg hb hs).imq fun D σ H ⟨e, S, D', A, m, k⟩ => ?_
  refine ⟨e, S, _, A, m, fun ds kp S1 H1 J x1 s1 kk q I => ?_⟩
  exact loop_ok (k.ext x1) I.stop I.go (fun i H2 S2 y H3 d hd x s kk yl => let ⟨h1, h2, h3⟩ := I.yld i H2 S2 y H3 d hd x s kk yl; ⟨S2, h1, h2, fun _ _ h => h, rfl, h3⟩) (A.next x1 s1) kk q

/-! ### list comprehensions -/
def nwipe (e : Env) : List Nat → Env
  | [] => e
  | v :: vs => (nwipe e vs).set v none
theorem ER.wipe {K : PySem.W.Frag} {H : Hp} {e : Env} {σ : L2.St} (h : ER K H e σ) : ∀ vs : List Nat, ER K H (nwipe e vs) (L2.wipe σ vs)
  | [] => h
  | v :: vs => (ER.wipe h vs).unset v
/-- a target that touches the names vs alone -/
def lGv (K : PySem.W.Frag) (H0 : Hp) (vs : List Nat) (m : NG) : TG := fun v σ H Q => ∃ d e S Q', VR K H d v ∧ At K H0 H σ e S ∧ m d e S Q' ∧ ∀ e' S' σ' H', HExt H H' → At K H0 H' σ' e' S' → L2.wipe σ' vs = L2.wipe σ vs → Q' e' S' → Q σ' H'
def lGvs (K : PySem.W.Frag) (H0 : Hp) (vs : List Nat) (m : NGs) : TGs := fun us σ H Q => ∃ ds e S Q', VRs K H ds us ∧ At K H0 H σ e S ∧ m ds e S Q' ∧ ∀ e' S' σ' H', HExt H H' → At K H0 H' σ' e' S' → L2.wipe σ' vs = L2.wipe σ vs → Q' e' S' → Q σ' H'
abbrev JGv (X : Cx) (H0 : Hp) (vs : List Nat) (e : Expr) (m : NG) : Prop := PG X e (lGv X.K H0 vs m)
abbrev JGvs (X : Cx) (H0 : Hp) (vs : List Nat) (es : List Expr) (m : NGs) : Prop := PGs X es (lGvs X.K H0 vs m)
theorem wipe_set {σ : L2.St} {i : Nat} {x : Option V} : ∀ {vs : List Nat}, i ∈ vs → L2.wipe (σ.set i x) vs = L2.wipe σ vs
  | [], h => by cases h
  | v :: vs, h => by
    unfold L2.wipe
    by_cases hv : i ∈ vs
    · rw [wipe_set hv]
    · have e : i = v := by
        rcases List.mem_cons.mp h with h | h
        · exact h
        · exact absurd h hv
      subst e
      have : ∀ (us : List Nat), i ∉ us → L2.wipe (σ.set i x) us = (L2.wipe σ us).set i x := by
        intro us
        induction us with
        | nil => intro _; rfl
        | cons u us ih =>
          intro hu
          simp only [List.mem_cons, not_or] at hu
          unfold L2.wipe
          rw [ih hu.2, List.set_comm _ _ (fun z => hu.1 z)]
      rw [this vs hv, List.set_set]
theorem wipe_wipe' {σ : L2.St} {vs : List Nat} : ∀ {us : List Nat}, (∀ u ∈ us, u ∈ vs) → L2.wipe (L2.wipe σ us) vs = L2.wipe σ vs
  | [], _ => rfl
  | u :: us, h => by
    show L2.wipe ((L2.wipe σ us).set u none) vs = _
    rw [wipe_set (h u (by simp)), wipe_wipe' fun z hz => h z (by simp [hz])]
theorem wipe_wipe {σ : L2.St} {vs : List Nat} : L2.wipe (L2.wipe σ vs) vs = L2.wipe σ vs := wipe_wipe' fun _ h => h
theorem jgv_name {vs : List Nat} {i : Nat} {x : Str} (hN : X.N.Nodup) (hv : i ∈ vs) (hi : X.N[i]? = some x := by rfl) (hx : Loc X.env.scope x := by first | exact Or.inl rfl | exact Or.inr rfl) (hf : X.fn x = true ∨ X.env.scope.names.lookup x = some .local := by first | exact .inl rfl | exact .inr rfl) : JGv X H0 vs (.Name x pos) (gNm i) :=
  (pg_name hN hi hx hf).imq fun v σ H Q ⟨d, e, S, Q', r, A, m, k⟩ => k _ _ _ _ (.refl H) (A.set r i) (wipe_set hv) m
theorem jgvs_nil {vs : List Nat} : JGvs X H0 vs [] gsNil := pgs_nil.imq fun v σ H Q ⟨ds, e, S, Q', r, A, m, k⟩ => by
  cases r with
  | nil => exact ⟨rfl, k _ _ _ _ (.refl H) A rfl m⟩
  | cons _ _ => exact m.elim
theorem jgvs_cons {vs : List Nat} {t : NG} {u : NGs} (h1 : JGv X H0 vs a t) (h2 : JGvs X H0 vs es u) (hs : (assignEach (a :: es) X.env).map (·.2) = assign a X.env :: (assignEach es X.env).map (·.2) := by rfl) : JGvs X H0 vs (a :: es) (gsCons t u) :=
  (pgs_cons h1 h2 hs).imq fun us σ H Q ⟨ds, e, S, Q', r, A, m, k⟩ => by
    cases r with
    | nil => exact m.elim
    | cons r rr => exact ⟨_, _, rfl, _, e, S, _, r, A, m, fun e1 S1 σ1 H1 x A1 w1 m1 => ⟨_, e1, S1, Q', rr.ext x, A1, m1, fun e2 S2 σ2 H2 x2 A2 w2 q => k e2 S2 σ2 H2 (x.trans x2) A2 (w2.trans w1) q⟩⟩
theorem jgv_tup {vs : List Nat} {k n : Nat} {t : NGs} (cx : NX X H0 w) (h : JGvs X H0 vs es t) (hn : (assignEach es X.env).length = n := by rfl) (hst : (assignEach es X.env).findIdx? (·.1) = none := by rfl) : JGv X H0 vs (.Tuple es k pos) (gTp n t) :=
  (pg_tup cx.calm h hn hst).imq fun v σ H Q ⟨d, e, S, Q', r, A, m, k⟩ => by
    unfold gTp at m
    split at m
    · rename_i ds
      cases r with
      | tup tr rr => exact ⟨_, _, rfl, tr.sq, by rw [← rr.length]; exact m.1, ds, e, S, Q', rr, A, m.2, k⟩
    · exact m.elim
abbrev JTs (X : Cx) (H0 : Hp) (es : List Expr) (m : NT) : Prop := PTs X es (lT X.K H0 m)
theorem _root_.L2.PTs.imq {X : Cx} {e : List Expr} {t t' : TT} (h : PTs X e t) (i : ∀ σ H Q, t' σ H Q → t σ H Q) : PTs X e t' := ⟨fun pins s σ H Q I q => h.run pins s σ H Q I (i _ _ _ q)⟩
def mYes : NT := fun _ S Q => Q true S
theorem jts_nil : JTs X H0 [] mYes := pts_nil.imq fun σ H Q ⟨e, S, Q', A, m, k⟩ => k true S H (.refl H) A.s m
theorem jts_one {t : NT} (h : JT X H0 a t) : JTs X H0 [a] t := pts_one h
/-- the list grows at p -/
def lcL (g : NG) (tt : NT) (te : NE) (kp : Keep) (p : Addr) (e : Env) : List D → Sto → (Sto → Prop) → Prop
  | [], S, Q => Q S
  | x :: xs, S, Q => g x e S fun e2 S2 => tt e2 S2 fun b S3 => match b with
    | true => te e2 S3 fun y S4 => (match S4 p with
      | some (.lst acc) => acc.length < sizeLine ∧ kp (put S4 p (.lst (acc ++ [y]))) ∧ lcL g tt te kp p e xs (put S4 p (.lst (acc ++ [y]))) Q
      | _ => False)
    | false => kp S3 ∧ lcL g tt te kp p e xs S3 Q
def mLc (mi : NI) (g : NG) (tt : NT) (te : NE) (vs : List Nat) : NE := fun e S Q => mi e S fun ds kp S1 => ∀ p, S1 p = none → kp (put S1 p (.lst [])) ∧ lcL g tt te kp p (nwipe e vs) ds (put S1 p (.lst [])) fun S2 => Q (.ref p) S2
theorem lc_ok {K : PySem.W.Frag} {mi : NI} {g : NG} {tt : NT} {te : NE} {vs : List Nat} {σ : L2.St} {H : Hp} {Q : VK} (h : lE K H0 (mLc mi g tt te vs) σ H Q) : tLc (lI K H0 mi) (lGv K H0 vs g) (lT K H0 tt) (lE K H0 te) vs σ H Q := by
  obtain ⟨e, S, Q', A, m, k⟩ := h
  refine ⟨e, S, _, A, m, fun ds kp S1 H1 J x1 s1 kk q I p np => ?_⟩
  have A1 := A.next x1 s1
  have xp : HExt H1 (upd H1 p (.lst [])) := .new np
  have sp : SR K (put S1 p (.lst [])) (upd H1 p (.lst [])) := s1.put (o := .lst []) xp ⟨[], upd_same, .nil⟩
  obtain ⟨k0, q⟩ := q p (s1.fresh np)
  refine ⟨fun i n H' => n = ds.length - i ∧ i ≤ ds.length ∧ HExt H1 H' ∧ ∃ S', SR K S' H' ∧ kp S' ∧ lcL g tt te kp p (nwipe e vs) (ds.drop i) S' fun S2 => Q' (.ref p) S2, ⟨_, rfl, Nat.zero_le _, xp, _, sp, k0, by simpa using q⟩, ?_⟩
  rintro i n H' ⟨rfl, hi, xe, S', s', kk', q⟩
  by_cases hlt : i < ds.length
  · obtain ⟨d, hd⟩ : ∃ d, ds[i]? = some d := ⟨ds[i], by simp [hlt]⟩
    have hdrop : ds.drop i = d :: ds.drop (i + 1) := by
      have := List.drop_eq_getElem_cons hlt
      rw [this]
      have : ds[i] = d := by
        have := List.getElem?_eq_getElem hlt
        rw [hd] at this
        exact (Option.some.inj this).symm
      rw [this]
    rw [hdrop] at q
    refine .inr ⟨I.go i H' S' hlt xe s' kk', fun H2 => i + 1 ≤ ds.length ∧ HExt H1 H2 ∧ ∃ S2, SR K S2 H2 ∧ kp S2 ∧ lcL g tt te kp p (nwipe e vs) (ds.drop (i + 1)) S2 fun S2 => Q' (.ref p) S2, fun H2 ⟨p1, p2, p3⟩ => ⟨ds.length - (i + 1), by omega, rfl, p1, p2, p3⟩, fun x H2 y => ?_⟩
    obtain ⟨x2, s2, rd⟩ := I.yld i H' S' x H2 d hd xe s' kk' y
    have xx2 := xe.trans x2
    have Aw : At K H0 H2 (L2.wipe σ vs) (nwipe e vs) S' := ⟨(A1.x.trans xe).trans x2, ((A1.e.ext xe).ext x2).wipe vs, s2⟩
    refine ⟨d, _, S', _, rd, Aw, q, fun e3 S3 σ3 H3 x3 A3 w3 q3 => ⟨?_, e3, S3, _, A3, q3, fun b S4 H4 x4 s4 q4 => ?_⟩⟩
    · rw [w3, wipe_wipe]
    · have xx4 := (xx2.trans x3).trans x4
      cases b with
      | false => exact iteF ⟨hlt, xx4, S4, s4, q4.1, q4.2⟩
      | true =>
        refine iteT ⟨e3, S4, _, A3.next x4 s4, q4, fun y S5 v H5 x5 s5 ry q5 => ?_⟩
        split at q5
        · rename_i acc e5
          obtain ⟨ws, g5, r5⟩ := s5.lst e5
          have x6 : HExt H5 (upd H5 p (.lst (ws ++ [v]))) := .upd g5 True.intro
          refine ⟨ws, g5, by rw [← r5.length]; exact q5.1, hlt, (xx4.trans x5).trans x6, _, s5.put (o := .lst (acc ++ [y])) x6 ⟨_, upd_same, (r5.append (.cons ry .nil)).ext x6⟩, q5.2.1, q5.2.2⟩
        · exact q5.elim
  · have e1 : i = ds.length := by omega
    subst e1
    rw [List.drop_length] at q
    exact .inl ⟨I.stop H' S' xe s' kk', k _ _ _ _ (x1.trans xe) s' (.ref p) q⟩
/-- inside a comprehension nothing is raised -/
def nw0 : NW := fun _ _ _ _ => False
theorem nx_blk {s : Shared} {H : Hp} {scope : Scope} {ce : PySem.Env} {fp : List Addr} (cx : NX X H0 w) : NX (X.blk s H scope ce fp) H0 nw0 :=
  ⟨fun u s' ⟨a, B, sI, pins, σ, H, cls, d, e, I, nb, up, sky, na, os, ag, c, e', S, _, _, h⟩ => h.elim, PassesOwn.never, cx.calm, cx.tb⟩
theorem je_lc {elt tg iter : Expr} {ifs : List Expr} {scope : Scope} {own : List (Str × Nat)} {mi : NI} {g : NG} {tt : NT} {te : NE} (cx : NX X H0 w) (hN : X.N.Nodup) (hi : JI X H0 tg iter mi) (ok : blkC X.N X.env.scope scope own = true)
    (hg : ∀ (s : Shared) (H : Hp) (C : Addr) (cl : List (Str × Addr)) (fp : List Addr), NX (X.blk s H scope (compEnvC scope cl C X.env) fp) H0 nw0 → JGv (X.blk s H scope (compEnvC scope cl C X.env) fp) H0 (own.map (·.2)) tg g)
    (ht : ∀ (s : Shared) (H : Hp) (C : Addr) (cl : List (Str × Addr)) (fp : List Addr), NX (X.blk s H scope (compEnvC scope cl C X.env) fp) H0 nw0 → JTs (X.blk s H scope (compEnvC scope cl C X.env) fp) H0 ifs tt)
    (he : ∀ (s : Shared) (H : Hp) (C : Addr) (cl : List (Str × Addr)) (fp : List Addr), NX (X.blk s H scope (compEnvC scope cl C X.env) fp) H0 nw0 → JE (X.blk s H scope (compEnvC scope cl C X.env) fp) H0 elt te)
    (hs : ∀ x, foldedSetIterable iter X.env x = pure x := by intro _; rfl) : JE X H0 (.ListComp elt [⟨tg, iter, ifs, 0⟩] scope pos) (mLc mi g tt te (own.map (·.2))) :=
  (pe_lc cx.calm hN hi (blkOk_by ok) (fun s H C cl fp => hg s H C cl fp (nx_blk cx)) (fun s H C cl fp => ht s H C cl fp (nx_blk cx)) (fun s H C cl fp => he s H C cl fp (nx_blk cx)) hs).imq fun _ _ _ h => lc_ok h
theorem js_setLc {i : Nat} {y : Str} {py : Pos} {elt tg iter : Expr} {ifs : List Expr} {scope : Scope} {own : List (Str × Nat)} {spos : Pos} {mi : NI} {g : NG} {tt : NT} {te : NE} (cx : NX X H0 w) (hN : X.N.Nodup) (hi : JI X H0 tg iter mi) (ok : blkC X.N X.env.scope scope own = true)
    (hg : ∀ (s : Shared) (H : Hp) (C : Addr) (cl : List (Str × Addr)) (fp : List Addr), NX (X.blk s H scope (compEnvC scope cl C X.env) fp) H0 nw0 → JGv (X.blk s H scope (compEnvC scope cl C X.env) fp) H0 (own.map (·.2)) tg g)
    (ht : ∀ (s : Shared) (H : Hp) (C : Addr) (cl : List (Str × Addr)) (fp : List Addr), NX (X.blk s H scope (compEnvC scope cl C X.env) fp) H0 nw0 → JTs (X.blk s H scope (compEnvC scope cl C X.env) fp) H0 ifs tt)
    (he : ∀ (s : Shared) (H : Hp) (C : Addr) (cl : List (Str × Addr)) (fp : List Addr), NX (X.blk s H scope (compEnvC scope cl C X.env) fp) H0 nw0 → JE (X.blk s H scope (compEnvC scope cl C X.env) fp) H0 elt te)
    (hsw : swapsWith (.ListComp elt [⟨tg, iter, ifs, 0⟩] scope pos) (some (.Name y py)) spos.line X.env = pure true := by rfl) (hy : X.N[i]? = some y := by rfl) (hyl : X.env.scope.names.lookup y = some .local := by rfl)
    (hs : ∀ x, foldedSetIterable iter X.env x = pure x := by intro _; rfl) : JS X H0 (.Assign [.Name y py] (.ListComp elt [⟨tg, iter, ifs, 0⟩] scope pos) spos) (sSet i (mLc mi g tt te (own.map (·.2)))) :=
  (ps_setLc cx.calm hN hy hyl hsw hi (blkOk_by ok) (fun s H C cl fp => hg s H C cl fp (nx_blk cx)) (fun s H C cl fp => ht s H C cl fp (nx_blk cx)) (fun s H C cl fp => he s H C cl fp (nx_blk cx)) hs).imq fun D σ H ⟨e, S, D', A, m, k⟩ =>
    lc_ok ⟨e, S, _, A, m, fun d S1 v H1 x s r q => k.nx _ _ _ _ x ((A.next x s).set r i) q⟩
end

/-! ### calls over lists -/
section
variable {X : Cx}
def intsOf : List D → Option (List Int)
  | [] => some []
  | .int i :: r => (intsOf r).map (i :: ·)
  | _ => none
theorem intsOf_eq : ∀ {ds : List D} {ns : List Int}, intsOf ds = some ns → ds = ns.map D.int
  | [], ns, h => by simp only [intsOf, Option.some.injEq] at h; subst h; rfl
  | .int i :: r, ns, h => by
    simp only [intsOf, Option.map_eq_some_iff] at h
    obtain ⟨ms, h1, rfl⟩ := h
    rw [intsOf_eq h1]; rfl
  | .non :: _, _, h => by cases h
  | .bl _ :: _, _, h => by cases h
  | .str _ :: _, _, h => by cases h
  | .ref _ :: _, _, h => by cases h
  | .ty _ :: _, _, h => by cases h
  | .cls _ :: _, _, h => by cases h
  | .tup _ :: _, _, h => by cases h
  | .rol _ :: _, _, h => by cases h
theorem intsOf_map : ∀ {ns : List Int}, intsOf (ns.map D.int) = some ns
  | [] => rfl
  | n :: r => by simp only [List.map_cons, intsOf, intsOf_map (ns := r), Option.map_some]
def blsOf : List D → Option (List Bool)
  | [] => some []
  | .bl i :: r => (blsOf r).map (i :: ·)
  | _ => none
theorem blsOf_eq : ∀ {ds : List D} {ns : List Bool}, blsOf ds = some ns → ds = ns.map D.bl
  | [], ns, h => by simp only [blsOf, Option.some.injEq] at h; subst h; rfl
  | .bl i :: r, ns, h => by
    simp only [blsOf, Option.map_eq_some_iff] at h
    obtain ⟨ms, h1, rfl⟩ := h
    rw [blsOf_eq h1]; rfl
  | .non :: _, _, h => by cases h
  | .int _ :: _, _, h => by cases h
  | .str _ :: _, _, h => by cases h
  | .ref _ :: _, _, h => by cases h
  | .ty _ :: _, _, h => by cases h
  | .cls _ :: _, _, h => by cases h
  | .tup _ :: _, _, h => by cases h
  | .rol _ :: _, _, h => by cases h
theorem blsOf_map : ∀ {ns : List Bool}, blsOf (ns.map D.bl) = some ns
  | [] => rfl
  | n :: r => by simp only [List.map_cons, blsOf, blsOf_map (ns := r), Option.map_some]
theorem vrs_ints {K : PySem.W.Frag} {H : Hp} : ∀ {ns : List Int} {vs : List V}, VRs K H (ns.map D.int) vs → vs = ns.map V.int
  | [], _, h => by cases h; rfl
  | _ :: r, _, h => by
    cases h with
    | cons a b => cases a; rw [vrs_ints b]; rfl
theorem vrs_bls {K : PySem.W.Frag} {H : Hp} : ∀ {ns : List Bool} {vs : List V}, VRs K H (ns.map D.bl) vs → vs = ns.map V.bl
  | [], _, h => by cases h; rfl
  | _ :: r, _, h => by
    cases h with
    | cons a b => cases a; rw [vrs_bls b]; rfl
/-- a list's items -/
def lstOf (S : Sto) : D → Option (List D)
  | .rol ds => some ds
  | .ref a => (match S a with
    | some (.lst ds) => some ds
    | _ => none)
  | _ => none
theorem lstOf_ok {K : PySem.W.Frag} {S : Sto} {H : Hp} {d : D} {v : V} {ds : List D} (s : SR K S H) (r : VR K H d v) (e : lstOf S d = some ds) : ∃ p vs, v = .ref p ∧ SqL K H p vs ∧ VRs K H ds vs := by
  unfold lstOf at e
  split at e
  · cases e
    cases r with
    | rol tr rr => exact ⟨_, _, rfl, tr.sq, rr⟩
  · cases r
    split at e
    · rename_i e1
      cases e
      obtain ⟨vs, h1, h2⟩ := s.lst e1
      exact ⟨_, vs, rfl, SqL.of h1, h2⟩
    · cases e
  · cases e
def nSum : NL := fun xs S Q => match xs with
  | [d] => (match lstOf S d with
    | some ds => (match intsOf ds with
      | some ns => Q (.int ns.sum) S
      | none => False)
    | none => False)
  | _ => False
theorem callN_sum (hc : X.calm = true) : CallN X (.builtin "sum") nSum := ⟨_, cr_sum hc, fun xs S Q vs H Q' s r n k => by
  unfold nSum at n
  split at n
  · rename_i d
    obtain ⟨v, rfl, rv⟩ := vrs1 r
    split at n
    · rename_i ds e1
      obtain ⟨p, ws, rfl, h1, h2⟩ := lstOf_ok s rv e1
      split at n
      · rename_i ns e2
        have := intsOf_eq e2
        subst this
        have := vrs_ints h2
        subst this
        exact ⟨p, ns, rfl, h1, k _ _ _ _ (.refl H) s (.int _) n⟩
      · exact n.elim
    · exact n.elim
  · exact n.elim⟩
def nAll : NL := fun xs S Q => match xs with
  | [d] => (match lstOf S d with
    | some ds => (match blsOf ds with
      | some ns => Q (.bl (ns.all id)) S
      | none => False)
    | none => False)
  | _ => False
theorem callN_all (hc : X.calm = true) : CallN X (.builtin "all") nAll := ⟨_, cr_all hc, fun xs S Q vs H Q' s r n k => by
  unfold nAll at n
  split at n
  · rename_i d
    obtain ⟨v, rfl, rv⟩ := vrs1 r
    split at n
    · rename_i ds e1
      obtain ⟨p, ws, rfl, h1, h2⟩ := lstOf_ok s rv e1
      split at n
      · rename_i ns e2
        have := blsOf_eq e2
        subst this
        have := vrs_bls h2
        subst this
        exact ⟨p, ns, rfl, h1, k _ _ _ _ (.refl H) s (.bl _) n⟩
      · exact n.elim
    · exact n.elim
  · exact n.elim⟩
/-- max, min of a list of numbers -/
def nMaxL : NL := fun xs S Q => match xs with
  | [d] => (match lstOf S d with
    | some ds => (match intsOf ds with
      | some ns => 0 < ns.length ∧ ∀ m, m ∈ ns → (∀ y, y ∈ ns → y ≤ m) → Q (.int m) S
      | none => False)
    | none => False)
  | _ => False
theorem callN_maxL (hc : X.calm = true) : CallN X (.builtin "max") nMaxL := ⟨_, cr_max hc, fun xs S Q vs H Q' s r n k => by
  unfold nMaxL at n
  split at n
  · rename_i d
    obtain ⟨v, rfl, rv⟩ := vrs1 r
    split at n
    · rename_i ds e1
      obtain ⟨p, ws, rfl, h1, h2⟩ := lstOf_ok s rv e1
      split at n
      · rename_i ns e2
        have := intsOf_eq e2
        subst this
        have := vrs_ints h2
        subst this
        exact ⟨p, ns, rfl, h1, n.1, fun m h3 h4 => k _ _ _ _ (.refl H) s (.int _) (n.2 m h3 h4)⟩
      · exact n.elim
    · exact n.elim
  · exact n.elim⟩

/-! ### isinstance of the program's own instances -/
def isC (c d : Str) : Bool := decide (c = d) || (decide (d = "Maker") && (decide (c = "Product") || decide (c = "Stretch") || decide (c = "Sum")))
structure InsC (K : PySem.W.Frag) (C : Addr) : Prop where
  ha : PySem.W.findIn K (.ref C) "__class__" = some (some (.builtin "object.__class__"))
  hn : PySem.W.specialIn K (.builtin "object.__class__") "__get__" = some (some (.builtin "getset_descriptor.__get__"))
  ht : PySem.W.takesIn K (.builtin "object.__class__") = some true
  hm : PySem.W.mroIn K C (.type "object") = some true
structure KI (IC : List Str) (K : PySem.W.Frag) : Prop where
  isa : ∀ c ∈ IC, ∀ d ∈ IC, PySem.W.kitOne K (.ref (He.ga K c)) (.ref (He.ga K d)) = some (isC c d)
  ins : ∀ c ∈ IC, InsC K (He.ga K c)
def nIsC (IC : List Str) : NL := fun xs S Q => match xs with
  | [.ref a, .cls d] => (match S a with
    | some (.ins c _) => IC.contains c = true ∧ IC.contains d = true ∧ Q (.bl (isC c d)) S
    | _ => False)
  | _ => False
theorem callN_isC {IC : List Str} (F : KI IC X.K) : CallN X (.builtin "isinstance") (nIsC IC) := ⟨_, call_isi, fun xs S Q vs H Q' s r n k => by
  unfold nIsC at n
  split at n
  · rename_i a d
    obtain ⟨v, w, rfl, rv, rw⟩ := vrs2 r
    cases rv
    cases rw
    split at n
    · rename_i c fs e1
      obtain ⟨n1, n2, n3⟩ := n
      have h1 := List.contains_iff_mem.mp n1
      obtain ⟨dx, ws, g1, _, co⟩ := s.ins e1
      obtain ⟨ha, hn, ht, hm⟩ := F.ins c h1
      exact ⟨_, _, _, _, _, rfl, .own _, .base (.ins g1 co.cl ha hn ht hm), F.isa c h1 d (List.contains_iff_mem.mp n2), k _ _ _ _ (.refl H) s (.bl _) n3⟩
    · exact n.elim
  · exact n.elim⟩
end
def insB (K : PySem.W.Frag) (D : Addr) : Bool := He.eqO (PySem.W.findIn K (.ref D) "__class__") (some (some (.builtin "object.__class__"))) &&
  (He.eqO (PySem.W.specialIn K (.builtin "object.__class__") "__get__") (some (some (.builtin "getset_descriptor.__get__"))) && (decide (PySem.W.takesIn K (.builtin "object.__class__") = some true) && decide (PySem.W.mroIn K D (.type "object") = some true)))
def kiW (IC : List Str) (K : PySem.W.Frag) : Bool := (IC.all fun c => IC.all fun d => decide (PySem.W.kitOne K (.ref (He.ga K c)) (.ref (He.ga K d)) = some (isC c d))) && IC.all fun c => insB K (He.ga K c)
theorem kiW_ok {IC : List Str} {K : PySem.W.Frag} (h : kiW IC K = true) : KI IC K := by
  obtain ⟨h1, h2⟩ := He.ba h
  refine ⟨fun c hc d hd => of_decide_eq_true (List.all_eq_true.mp (List.all_eq_true.mp h1 c hc) d hd), fun c hc => ?_⟩
  have h := List.all_eq_true.mp h2 c hc
  obtain ⟨h5, h⟩ := He.ba h
  obtain ⟨h6, h⟩ := He.ba h
  obtain ⟨h7, h8⟩ := He.ba h
  exact ⟨He.eqO_ok h5, He.eqO_ok h6, of_decide_eq_true h7, of_decide_eq_true h8⟩
end N

set_option Elab.async false
set_option linter.all false
set_option maxRecDepth 100000
set_option maxHeartbeats 4000000
namespace N
variable [TabList]
open PySem PySem.Spec PyProof.Rows L2 HT
/-! ### (a, b)[::-1] -/
section
variable {prog : Program} {w : World} {A : Around} {E : Value → Shared → Prop} {s : Shared}
theorem sliceApplied_rev2 {sl : Addr} {vl vu vs : Value} {Q : Int × Int × Nat → Shared → Prop} (hs : s.heap.IsSliceOf sl vl vu vs) (pl : IsPart vl none) (pu : IsPart vu none) (ps : IsPart vs (some (-1)))
    (h : Q (1, -1, 2) s) : wpAny (model prog w) A (Builtin.Slice.sliceApplied (.ref sl) (pure ((2 : Nat) : Int))) Q E s := by
  obtain ⟨os, hos, hcs, hds⟩ := id hs
  unfold Builtin.Slice.sliceApplied Builtin.Slice.sliceFields
  refine wpAny_bind (wpAny_bind (wpAny_field hos hds (x := vl) rfl (wpAny_bind (wpAny_field hos hds (x := vu) rfl (wpAny_bind (wpAny_field hos hds (x := vs) rfl (wpAny_pure ?_)))))))
  refine wpAny_bind (slicePart_ ps ?_)
  show wpAny _ _ (if ((-1 : Int) == 0) = true then _ else _) _ _ s
  rw [if_neg (by decide)]
  refine wpAny_bind (slicePart_ pl (wpAny_bind (slicePart_ pu (wpAny_bind (wpAny_pure ?_)))))
  exact wpAny_pure h
theorem getItem_pair_rev {t sl : Addr} {a b vl vu vs : Value} {Q : Value → Shared → Prop} (ht : IsTup s.heap t #[a, b]) (hs : s.heap.IsSliceOf sl vl vu vs) (pl : IsPart vl none) (pu : IsPart vu none) (ps : IsPart vs (some (-1)))
    (h : Q (.ref s.heap.objs.size) { s with heap := s.heap.push { cls := .type "tuple", data := .seq #[b, a] } }) : wpAny (model prog w) A (getItem (.ref t) (.ref sl)) Q E s := by
  have htake : sizeOk (.seq #[b, a]) := by
    show 2 ≤ sizeLine
    decide
  obtain ⟨os, hos, hcs, hds⟩ := id hs
  have hTs : s.TypeIs (.ref sl) "slice" := ⟨os, hos, hcs⟩
  unfold getItem
  try with_reducible refine wpAny_holding ?_
  first | refine wpAny_bind (wpAny_pure ?_) | skip
  refine wpAny_bind (wpAny_sequenceKey ht.typeIs (by decide) ?_)
  refine wpAny_bind (wpAny_callSpecial?_slot (name := Str.ofString "__getitem__") ht.typeIs PyProof.Rows.slot_tuple_getitem
    (wpAny_call_entry PyProof.Rows.slot_tuple_getitem ht.typeIs entry_tuple_getitem ?_ (args_tuple_getitem _ _)))
  show wpAny _ _ (Builtin.Tuple.tupleItemsOf (.ref t) >>= _) _ _ s
  refine wpAny_bind (tupleItemsOf_ ht ?_)
  refine wpAny_bind (wpAny_typeOf hTs ?_)
  rw [if_pos (by decide)]
  refine wpAny_bind (sliceApplied_rev2 hs pl pu ps ?_)
  first
    | exact wpAny_bind (m := Builtin.Tuple.tupleExact _) (wpAny_newObj_type (wpAny_pure ⟨_, rfl, wpAny_pure h⟩) htake)
    | exact wpAny_bind (m := Builtin.Tuple.tupleExact _) (wpAny_newObj_type (wpAny_bind (wpAny_pure (wpAny_pure ⟨_, rfl, wpAny_pure h⟩))) htake)
    | exact wpAny_bind (wpAny_bind (m := Builtin.Tuple.tupleExact _) (wpAny_newObj_type (wpAny_pure (wpAny_pure ⟨_, rfl, wpAny_pure h⟩)) htake))
    | exact wpAny_bind (wpAny_bind (m := Builtin.Tuple.tupleExact _) (wpAny_newObj_type (wpAny_pure ⟨_, rfl, wpAny_pure h⟩) htake))
end
section
variable {X : Cx} {H0 : Hp} {w : NW} {a b c o : Expr} {ma mb mo : NE} {pos : Pos} {es : List Expr} {mr : NA}
def tRevP (K : PySem.W.Frag) (te : TE) : TE := fun σ H Q => te σ H fun v H1 => ∃ a x y, v = .ref a ∧ SqT K H1 a [x, y] ∧ ∀ p, H1 p = none → Q (.ref p) (upd H1 p (.tup [y, x]))
theorem pe_revP {e : Expr} {te : TE} {k : Nat} {p1 p2 p3 pos : Pos} (he : PE X e te) : PE X (.Subscript e (.Slice none none (some (.UnaryOp .USub (.Constant (.int 1) k p1) p2)) p3) pos) (tRevP X.K te) := by
  refine ⟨fun pins s σ H Q I h => ?_⟩
  refine Subscript_ (thn (he.run pins s σ H _ I h) fun v s1 ⟨x, H1, I1, r1, q1⟩ => ?_)
  obtain ⟨a, x1, x2, ex, hx, q⟩ := q1
  subst ex
  cases r1
  have hst : PO X (some (.UnaryOp .USub (.Constant (.int 1) k p1) p2)) (tPart (tUn (rU fun i => .int (-i)) (tC (.int 1)))) := po_some (pe_un un_neg pe_int)
  refine wpAny_Slice (thn (po_none.run pins s1 σ H1 (fun o H2 => o = none ∧ H2 = H1) I1 ⟨rfl, rfl⟩) fun vl s2 ⟨l, H2, I2, pl, el, e2⟩ => ?_)
  subst el e2
  refine thn (po_none.run pins s2 σ H2 (fun o H3 => o = none ∧ H3 = H2) I2 ⟨rfl, rfl⟩) fun vu s3 ⟨u, H3, I3, pu, eu, e3⟩ => ?_
  subst eu e3
  refine thn (hst.run pins s3 σ H3 (fun o H4 => o = some (-1) ∧ H4 = H3) I3 ⟨1, rfl, -1, rfl, rfl, rfl⟩) fun vs s4 ⟨o, H4, I4, ps, eo, e4⟩ => ?_
  subst eo e4
  have I5 : Inv X pins σ H4 { s4 with heap := s4.heap.push { cls := .type "slice", data := .fields #[vl, vu, vs] } } := I4.kept (t' := s4.toks) fun b ob q => Heap.get?_push_of_some _ q
  obtain ⟨its, r, ht, hz⟩ := I5.tuple hx
  cases r with
  | cons ra r =>
    cases r with
    | cons rb r =>
      cases r
      rename_i u1 u2
      show wpAny (model X.prog X.w) X.A (subscriptTail e (.Slice none none (some (.UnaryOp .USub (.Constant (.int 1) k p1) p2)) p3) (.ref a) (.ref s4.heap.objs.size)) (EP X pins σ Q) X.xe { s4 with heap := s4.heap.push { cls := .type "slice", data := .fields #[vl, vu, vs] } }
      refine tail_any (ops := [.ref a, .ref s4.heap.objs.size]) ht.typeIs (PyProof.Rows.slot_tuple_getitem.lookup) ?_ (by with_unfolding_all rfl)
      refine getItem_pair_rev (a := u1) (b := u2) ht (Heap.IsSliceOf.new _ vl vu vs) pl pu ps ?_
      refine ⟨.ref _, _, I5.laid (t' := s4.toks) (o := .tup [x2, x1]) (fun b ob q => Heap.get?_push_of_some _ q) (Nat.le_refl _) ?_, rfl, q _ (I5.hok.fresh (Nat.le_refl _))⟩
      exact ⟨by show 2 ≤ sizeLine; decide, [u2, u1], .cons rb (.cons ra .nil), IsTup.new _ _⟩
def nRevP : D → Sto → NQ → Prop := fun x S Q => match x with
  | .tup [x, y] => Q (.tup [y, x]) S
  | _ => False
theorem je_revP {k : Nat} {p1 p2 p3 : Pos} (he : JE X H0 a ma) : JE X H0 (.Subscript a (.Slice none none (some (.UnaryOp .USub (.Constant (.int 1) k p1) p2)) p3) pos) (mUn nRevP ma) := by
  refine (pe_revP he).imq fun σ H Q h => ?_
  obtain ⟨e, S, Q', A, m, k⟩ := h
  refine ⟨e, S, _, A, m, fun x S1 vx H1 x1 s1 rx n => ?_⟩
  unfold nRevP at n
  split at n
  · rename_i d d'
    cases rx with
    | tup tr rr =>
      obtain ⟨v, u, rfl, rv, ru⟩ := vrs2 rr
      refine ⟨_, _, _, rfl, tr.sq, fun p np => ?_⟩
      exact k _ _ _ _ (x1.trans (.new np)) (s1.more np) (.tup (.inl upd_same) (.cons (ru.ext (.new np)) (.cons (rv.ext (.new np)) .nil))) n
  · exact n.elim
end
/-! ### max of a tuple of numbers -/
section
variable {X : Cx}
def rMaxT (K : PySem.W.Frag) : List V → Hp → VK → Prop := fun vs H Q => ∃ (a : Addr) (i : Int) (ns : List Int), vs = [V.ref a] ∧ SqT K H a (V.int i :: ns.map V.int) ∧ ns.length ≤ 100 ∧ Q (.int (ns.foldl max i)) H
theorem depth_ints : ∀ ns : List Int, PyData.depthAll (ns.map PyData.int) ≤ 1 := by
  intro ns; induction ns with
  | nil => decide
  | cons n r ih => simp only [List.map_cons, PyData.depthAll, PyData.depth]; omega
theorem dp_ints {K : PySem.W.Frag} {H : Hp} : ∀ ns : List Int, DpAll K H (ns.map V.int) (ns.map PyData.int)
  | [] => .nil
  | n :: r => .cons (.int n) (dp_ints r)
theorem cr_maxT (hc : X.calm = true) (hu : X.A.units + 64 < cLine) : CallR X (.builtin "max") (rMaxT X.K) := by
  intro pins s σ H vs us Q I r h
  obtain ⟨a, i, ns, rfl, hs, _, q⟩ := h
  obtain ⟨its, rv, hl, _⟩ := I.tuple hs
  rw [Vals.ref1 r]
  obtain ⟨as, hr⟩ := Dp.readsAll I ((i :: ns).map PyData.int) ((i :: ns).map V.int) its (dp_ints (i :: ns)) rv
  have hd := depth_ints (i :: ns)
  simp only [List.map_cons] at hr hd
  refine PySem.W.max_tuple_data (I.ok.hd hc) hl (x := .int i) (xs := ns.map PyData.int) (as := as) hr ?_ (by omega) fun k v h' tk bs hk hv hkp => ?_
  · refine ⟨fun x hx y hy => ?_, fun x hx => ?_⟩
    · have ex : ∃ n, x = PyData.int n := by
        rcases List.mem_cons.mp hx with rfl | hx
        · exact ⟨_, rfl⟩
        · obtain ⟨n, _, e⟩ := List.mem_map.mp hx
          exact ⟨n, e.symm⟩
      have ey : ∃ n, y = PyData.int n := by
        rcases List.mem_cons.mp hy with rfl | hy
        · exact ⟨_, rfl⟩
        · obtain ⟨n, _, e⟩ := List.mem_map.mp hy
          exact ⟨n, e.symm⟩
      obtain ⟨n, rfl⟩ := ex
      obtain ⟨m, rfl⟩ := ey
      rfl
    · rcases List.mem_cons.mp hx with rfl | hx
      · exact fun z => nomatch z
      · obtain ⟨n, _, e⟩ := List.mem_map.mp hx
        rw [← e]; exact fun z => nomatch z
  · rw [PySem.W.maxD_ints] at hv
    cases hv with
    | int => exact ⟨.int _, H, I.kept hkp, ⟨_, rfl⟩, q⟩
def nMaxT : NL := fun xs S Q => match xs with
  | [.tup (.int i :: r)] => (match intsOf r with
    | some ns => ns.length ≤ 100 ∧ Q (.int (ns.foldl max i)) S
    | none => False)
  | _ => False
/-- max of a list, of a tuple -/
def nMax1 : NL := fun xs S Q => match xs with
  | [.tup r] => nMaxT [.tup r] S Q
  | xs => nMaxL xs S Q
theorem callN_max1 (hc : X.calm = true) (hu : X.A.units + 64 < cLine) : CallN X (.builtin "max") nMax1 := by
  obtain ⟨rl, h1, h2⟩ := callN_maxL (X := X) hc
  refine ⟨_, (cr_maxT hc hu).or h1, fun xs S Q vs H Q' s r n k => ?_⟩
  unfold nMax1 at n
  split at n
  · rename_i es
    unfold nMaxT at n
    split at n
    · rename_i i t e
      cases e
      obtain ⟨v, rfl, rv⟩ := vrs1 r
      split at n
      · rename_i ns e2
        have := intsOf_eq e2
        subst this
        cases rv with
        | tup tr rr =>
          obtain ⟨u, ws, rfl, r1, r2⟩ := rr.cons_inv
          cases r1
          have := vrs_ints r2
          subst this
          exact .inl ⟨_, i, ns, rfl, tr.sq, n.1, k _ _ _ _ (.refl H) s (.int _) n.2⟩
      · exact n.elim
    · exact n.elim
  · exact .inr (h2 _ _ _ _ _ _ s r n k)
/-! ### min of a tuple of numbers -/
def rMinT (K : PySem.W.Frag) : List V → Hp → VK → Prop := fun vs H Q => ∃ (a : Addr) (i : Int) (ns : List Int), vs = [V.ref a] ∧ SqT K H a (V.int i :: ns.map V.int) ∧ ns.length ≤ 100 ∧ Q (.int (ns.foldl min i)) H
theorem cr_minT (hc : X.calm = true) (hu : X.A.units + 64 < cLine) : CallR X (.builtin "min") (rMinT X.K) := by
  intro pins s σ H vs us Q I r h
  obtain ⟨a, i, ns, rfl, hs, _, q⟩ := h
  obtain ⟨its, rv, hl, _⟩ := I.tuple hs
  rw [Vals.ref1 r]
  obtain ⟨as, hr⟩ := Dp.readsAll I ((i :: ns).map PyData.int) ((i :: ns).map V.int) its (dp_ints (i :: ns)) rv
  have hd := depth_ints (i :: ns)
  simp only [List.map_cons] at hr hd
  refine PySem.W.min_tuple_data (I.ok.hd hc) hl (x := .int i) (xs := ns.map PyData.int) (as := as) hr ?_ (by omega) fun k v h' tk bs hk hv hkp => ?_
  · refine ⟨fun x hx y hy => ?_, fun x hx => ?_⟩
    · have ex : ∃ n, x = PyData.int n := by
        rcases List.mem_cons.mp hx with rfl | hx
        · exact ⟨_, rfl⟩
        · obtain ⟨n, _, e⟩ := List.mem_map.mp hx
          exact ⟨n, e.symm⟩
      have ey : ∃ n, y = PyData.int n := by
        rcases List.mem_cons.mp hy with rfl | hy
        · exact ⟨_, rfl⟩
        · obtain ⟨n, _, e⟩ := List.mem_map.mp hy
          exact ⟨n, e.symm⟩
      obtain ⟨n, rfl⟩ := ex
      obtain ⟨m, rfl⟩ := ey
      rfl
    · rcases List.mem_cons.mp hx with rfl | hx
      · exact fun z => nomatch z
      · obtain ⟨n, _, e⟩ := List.mem_map.mp hx
        rw [← e]; exact fun z => nomatch z
  · rw [PySem.W.minD_ints] at hv
    cases hv with
    | int => exact ⟨.int _, H, I.kept hkp, ⟨_, rfl⟩, q⟩
def nMinT : NL := fun xs S Q => match xs with
  | [.tup (.int i :: r)] => (match intsOf r with
    | some ns => ns.length ≤ 100 ∧ Q (.int (ns.foldl min i)) S
    | none => False)
  | _ => False
theorem callN_minT (hc : X.calm = true) (hu : X.A.units + 64 < cLine) : CallN X (.builtin "min") nMinT := by
  refine ⟨_, cr_minT hc hu, fun xs S Q vs H Q' s r n k => ?_⟩
  unfold nMinT at n
  split at n
  · rename_i i t
    obtain ⟨v, rfl, rv⟩ := vrs1 r
    split at n
    · rename_i ns e2
      have := intsOf_eq e2
      subst this
      cases rv with
      | tup tr rr =>
        obtain ⟨u, ws, rfl, r1, r2⟩ := rr.cons_inv
        cases r1
        have := vrs_ints r2
        subst this
        exact ⟨_, i, ns, rfl, tr.sq, n.1, k _ _ _ _ (.refl H) s (.int _) n.2⟩
    · exact n.elim
  · exact n.elim
end
/-! ### x, y = a, b -/
section
variable {X : Cx} {H0 : Hp} {w : NW} {a b c o : Expr} {ma mb mo : NE} {pos : Pos} {es : List Expr} {mr : NA}
def sPar (i j : Nat) (ma mb : NE) : NS := fun Z e S => ma e S fun x S1 => mb e S1 fun y S2 => Z.nx ((e.set i (some x)).set j (some y)) S2
theorem js_par {i j : Nat} {x y : Str} {px py pt pt2 : Pos} {kt k2} (cx : NX X H0 w) (hN : X.N.Nodup) (ha : JE X H0 a ma) (hb : JE X H0 b mb) (hij : i ≠ j) (hi : X.N[i]? = some x := by rfl) (hj : X.N[j]? = some y := by rfl)
    (hx : X.env.scope.names.lookup x = some .local := by rfl) (hy : X.env.scope.names.lookup y = some .local := by rfl)
    (hw : swappedStores [.Tuple [.Name x px, .Name y py] kt pt] (.Tuple [a, b] k2 pt2) X.env = pure (some [x, y]) := by rfl)
    (hs : swapsWithSole [.Tuple [.Name x px, .Name y py] kt pt] (.Tuple [a, b] k2 pt2) pos.line X.env = pure false := by rfl)
    (hsa : starEach [a, b] X.env = (false, eval a X.env) :: starEach [b] X.env := by rfl) (hsb : starEach [b] X.env = (false, eval b X.env) :: starEach [] X.env := by rfl) :
    JS X H0 (.Assign [.Tuple [.Name x px, .Name y py] kt pt] (.Tuple [a, b] k2 pt2) pos) (sPar i j ma mb) :=
  (ps_par cx.calm hN hi hj hij hx hy (ja_cons ha (ja_cons hb ja_nil hsb) hsa) hw hs).imq fun D σ H ⟨e, S, D', A, m, k⟩ =>
    ⟨e, S, fun ds S1 => ∃ x y, ds = [x, y] ∧ D'.nx ((e.set i (some x)).set j (some y)) S1, A, two_args (K := X.K) m, fun ds S1 vs H1 x1 s1 r ⟨x, y, ed, m1⟩ => by
      subst ed
      obtain ⟨v, u, rfl, rv, ru⟩ := vrs2 r
      exact ⟨v, u, rfl, k.nx _ _ _ _ x1 (((A.next x1 s1).set rv i).set ru j) m1⟩⟩
end
end N

set_option Elab.async false
set_option linter.all false
set_option maxRecDepth 100000
set_option maxHeartbeats 4000000
namespace N
open PySem PySem.Spec PyProof.Rows L2
variable [TabList]
/-! ### max and min of three numbers -/
def nMax3 : NL := fun xs S Q => match xs with
  | [.int i, .int j, .int k] => Q (.int (if (if i < j then j else i) < k then k else if i < j then j else i)) S
  | _ => False
def nMin3 : NL := fun xs S Q => match xs with
  | [.int i, .int j, .int k] => Q (.int (if k < (if j < i then j else i) then k else if j < i then j else i)) S
  | _ => False
theorem vrs3 {K : PySem.W.Frag} {H : Hp} {d d' d'' : D} {vs : List V} (r : VRs K H [d, d', d''] vs) : ∃ v w u, vs = [v, w, u] ∧ VR K H d v ∧ VR K H d' w ∧ VR K H d'' u := by
  cases r with
  | cons r t =>
    obtain ⟨w, u, rfl, h1, h2⟩ := vrs2 t
    exact ⟨_, _, _, rfl, r, h1, h2⟩
theorem nuLt_i {i j : Int} : nuLt (.int i) (.int j) = some (decide (i < j)) := rfl
section
variable {X : Cx}
theorem callN_max3 (hc : X.calm = true) : CallN X (.builtin "max") nMax3 := by
  refine ⟨_, call_max3Nu hc, fun xs S Q vs H Q' s r n k => ?_⟩
  unfold nMax3 at n
  split at n
  · rename_i i j l
    obtain ⟨v, w, u, rfl, r1, r2, r3⟩ := vrs3 r
    cases r1; cases r2; cases r3
    refine ⟨_, _, _, .int (if (if i < j then j else i) < l then l else if i < j then j else i), rfl, ?_, k _ _ _ _ (.refl H) s (.int _) n⟩
    unfold nuMax3 nuMax2
    by_cases h1 : i < j
    · simp only [nuLt_i, h1, decide_true, Option.map_some, Option.bind_some, if_true]
      by_cases h2 : j < l <;> simp [nuLt_i, h1, h2]
    · simp only [nuLt_i, h1, decide_false, Option.map_some, Option.bind_some, if_false]
      by_cases h2 : i < l <;> simp [nuLt_i, h1, h2]
  · exact n.elim
theorem callN_min3 (hc : X.calm = true) : CallN X (.builtin "min") nMin3 := by
  refine ⟨_, call_min3Nu hc, fun xs S Q vs H Q' s r n k => ?_⟩
  unfold nMin3 at n
  split at n
  · rename_i i j l
    obtain ⟨v, w, u, rfl, r1, r2, r3⟩ := vrs3 r
    cases r1; cases r2; cases r3
    refine ⟨_, _, _, .int (if l < (if j < i then j else i) then l else if j < i then j else i), rfl, ?_, k _ _ _ _ (.refl H) s (.int _) n⟩
    unfold nuMin3 nuMin2
    by_cases h1 : j < i
    · simp only [nuLt_i, h1, decide_true, Option.map_some, Option.bind_some, if_true]
      by_cases h2 : l < j <;> simp [nuLt_i, h1, h2]
    · simp only [nuLt_i, h1, decide_false, Option.map_some, Option.bind_some, if_false]
      by_cases h2 : l < i <;> simp [nuLt_i, h1, h2]
  · exact n.elim
end
end N

set_option Elab.async false
set_option linter.all false
set_option maxRecDepth 100000
set_option maxHeartbeats 4000000
namespace N
open PySem PySem.Spec PyProof.Rows L2
variable [TabList]
/-! ### texts -/
def strsOf : List D → Option (List Str)
  | [] => some []
  | .str x :: r => (strsOf r).map (x :: ·)
  | _ => none
theorem strsOf_eq : ∀ {ds : List D} {ss : List Str}, strsOf ds = some ss → ds = ss.map D.str
  | [], ss, h => by simp only [strsOf, Option.some.injEq] at h; subst h; rfl
  | .str i :: r, ss, h => by
    simp only [strsOf, Option.map_eq_some_iff] at h
    obtain ⟨ms, h1, rfl⟩ := h
    rw [strsOf_eq h1]; rfl
  | .non :: _, _, h => by cases h
  | .bl _ :: _, _, h => by cases h
  | .int _ :: _, _, h => by cases h
  | .ref _ :: _, _, h => by cases h
  | .ty _ :: _, _, h => by cases h
  | .cls _ :: _, _, h => by cases h
  | .tup _ :: _, _, h => by cases h
  | .rol _ :: _, _, h => by cases h
theorem strsOf_map : ∀ (ss : List Str), strsOf (ss.map D.str) = some ss
  | [] => rfl
  | x :: r => by
    show (strsOf (r.map D.str)).map (x :: ·) = some (x :: r)
    rw [strsOf_map r]; rfl
theorem vrs_strs_eq {K : PySem.W.Frag} {H : Hp} : ∀ {ss : List Str} {vs : List V}, VRs K H (ss.map D.str) vs → vs = ss.map V.str
  | [], _, .nil => rfl
  | x :: r, _, .cons h t => by
    cases h
    rw [vrs_strs_eq t]; rfl
/-- sep.join(texts) -/
def nJoin : D → D → Sto → NQ → Prop := fun x y S Q => match x with
  | .str a => (match seqOf S y with
    | some ds => (match strsOf ds with
      | some ss => (ss.map (·.length)).sum + ss.length * a.length ≤ 16777216 ∧ Q (.str (Txt.join a ss)) S
      | none => False)
    | none => False)
  | _ => False
def mM1 (n : D → D → Sto → NQ → Prop) (mo me : NE) : NE := fun e S Q => mo e S fun x S1 => match x with
  | .str a => me e S1 fun y S2 => n (.str a) y S2 Q
  | _ => False
section
variable {X : Cx} {H0 : Hp} {w : NW} {a o : Expr} {mo me : NE} {pos : Pos}
theorem je_join {apos : Pos} (ho : JE X H0 o mo) (he : JE X H0 a me) (hs : starEach [a] X.env = [(false, eval a X.env)] := by rfl) (hbase : attributeBase o "join" X.env (eval o X.env) = eval o X.env := by rfl) (hline : (apos.endLine == pos.line) = true := by rfl) :
    JE X H0 (.Call (.Attribute o "join" apos) [a] [] pos) (mM1 nJoin mo me) := by
  refine (pe_join ho he hs hbase hline).imq fun σ H Q ⟨e, S, Q', A, m, k⟩ => ?_
  refine ⟨e, S, _, A, m, fun x S1 vx H1 x1 s1 rx q => ?_⟩
  split at q
  · rename_i z
    cases rx
    refine ⟨⟨_, rfl⟩, e, S1, _, A.next x1 s1, q, fun y S2 vy H2 x2 s2 ry q2 => ?_⟩
    unfold nJoin at q2
    dsimp only at q2
    split at q2
    · rename_i ds e1
      split at q2
      · rename_i ss e2
        obtain ⟨p, ws, rfl, hs, r1⟩ := seqOf_ok s2 ry e1
        rw [strsOf_eq e2] at r1
        rw [vrs_strs_eq r1] at hs
        exact ⟨_, p, ss, rfl, rfl, hs, q2.1, k _ _ _ _ (x1.trans x2) s2 (.str _) q2.2⟩
      · exact q2.elim
    · exact q2.elim
  · exact q.elim
end
end N

set_option Elab.async false
set_option linter.all false
set_option maxRecDepth 100000
set_option maxHeartbeats 4000000
namespace N
open PySem PySem.Spec PyProof.Rows L2
variable [TabList]
/-! ### texts are split -/
def nSplit : D → D → Sto → NQ → Prop := fun x y S Q => match x, y with
  | .str a, .str b => (b.length == 0) = false ∧ a.length + 2 ≤ sizeLine ∧ ∀ p, S p = none → Q (.ref p) (put S p (.lst ((Txt.split a b).map D.str)))
  | _, _ => False
def nPart : D → D → Sto → NQ → Prop := fun x y S Q => match x, y with
  | .str a, .str b => (b.length == 0) = false ∧ a.length ≤ sizeLine ∧ Q (.tup [.str (Txt.partition a b).1, .str (Txt.partition a b).2.1, .str (Txt.partition a b).2.2]) S
  | _, _ => False
section
variable {X : Cx} {H0 : Hp} {w : NW} {a b o : Expr} {mo me mf : NE} {pos : Pos}
theorem je_split {apos : Pos} (ho : JE X H0 o mo) (he : JE X H0 a me) (hs : starEach [a] X.env = [(false, eval a X.env)] := by rfl) (hbase : attributeBase o "split" X.env (eval o X.env) = eval o X.env := by rfl) (hline : (apos.endLine == pos.line) = true := by rfl) :
    JE X H0 (.Call (.Attribute o "split" apos) [a] [] pos) (mM1 nSplit mo me) := by
  refine (pe_split ho he hs hbase hline).imq fun σ H Q ⟨e, S, Q', A, m, k⟩ => ?_
  refine ⟨e, S, _, A, m, fun x S1 vx H1 x1 s1 rx q => ?_⟩
  split at q
  · rename_i z
    cases rx
    refine ⟨⟨_, rfl⟩, e, S1, _, A.next x1 s1, q, fun y S2 vy H2 x2 s2 ry q2 => ?_⟩
    unfold nSplit at q2
    split at q2
    · rename_i z1 z2 ez
      cases ez
      cases ry
      refine ⟨_, _, rfl, rfl, q2.1, q2.2.1, fun p np => ?_⟩
      exact k _ _ _ _ ((x1.trans x2).trans (.new np)) (lst_ok s2 np (vrs_strs _)) (.ref p) (q2.2.2 p (s2.fresh np))
    · exact q2.elim
  · exact q.elim
theorem je_partition {apos : Pos} (ho : JE X H0 o mo) (he : JE X H0 a me) (hs : starEach [a] X.env = [(false, eval a X.env)] := by rfl) (hbase : attributeBase o "partition" X.env (eval o X.env) = eval o X.env := by rfl) (hline : (apos.endLine == pos.line) = true := by rfl) :
    JE X H0 (.Call (.Attribute o "partition" apos) [a] [] pos) (mM1 nPart mo me) := by
  refine (pe_partition ho he hs hbase hline).imq fun σ H Q ⟨e, S, Q', A, m, k⟩ => ?_
  refine ⟨e, S, _, A, m, fun x S1 vx H1 x1 s1 rx q => ?_⟩
  split at q
  · rename_i z
    cases rx
    refine ⟨⟨_, rfl⟩, e, S1, _, A.next x1 s1, q, fun y S2 vy H2 x2 s2 ry q2 => ?_⟩
    unfold nPart at q2
    split at q2
    · rename_i z1 z2 ez
      cases ez
      cases ry
      refine ⟨_, _, rfl, rfl, q2.1, q2.2.1, fun p np => ?_⟩
      exact k _ _ _ _ ((x1.trans x2).trans (.new np)) (s2.more np) (.tup (.inl upd_same) (.cons (.str _) (.cons (.str _) (.cons (.str _) .nil)))) q2.2.2
    · exact q2.elim
  · exact q.elim
end
end N

set_option Elab.async false
set_option linter.all false
set_option maxRecDepth 100000
set_option maxHeartbeats 4000000
namespace N
open PySem PySem.Spec PyProof.Rows L2
variable [TabList]
/-! ### a dict of the module: text keys, whole numbers -/
structure TabN (K : PySem.W.Frag) (w : World) (x : Str) (kvs : List (Str × Int)) : Prop where
  kd : ∃ es n, KDict K w (He.ga K x) es n
  at_ : ∀ z : Str, ∃ r, PySem.W.nsIn K (He.ga K x) z = some r ∧ match kvs.lookup z with
    | some i => ∃ t, r = some (.int i t)
    | none => r = none
def tabV (K : PySem.W.Frag) (a : Addr) (kvs : List (Str × Int)) : Bool := kvs.all fun q => match PySem.W.nsIn K a q.1 with
  | some (some (.int i _)) => decide (i = q.2)
  | _ => false
omit [TabList] in
theorem keys_in {P : Params} : ∀ {l : List DictEntry} {ks : List Str}, l.map He.keyOf = He.keysIn P ks → ∀ e ∈ l, ∃ y t, e.key = .str y t ∧ y ∈ ks
  | [], _, _, e, he => by cases he
  | d :: r, [], h, _, _ => by cases h
  | d :: r, k :: ks, h, e, he => by
    have h1 : He.keyOf d :: r.map He.keyOf = some (k, PyData.keyHash P k) :: He.keysIn P ks := h
    injection h1 with h2 h3
    rcases List.mem_cons.mp he with rfl | he
    · unfold He.keyOf at h2
      split at h2
      · rename_i y t q
        obtain ⟨h5, h6⟩ := Prod.mk.inj (Option.some.inj h2)
        exact ⟨y, t, q, by rw [h5]; simp⟩
      · cases h2
    · obtain ⟨y, t, q, m⟩ := keys_in h3 e he
      exact ⟨y, t, q, List.mem_cons_of_mem _ m⟩
omit [TabList] in
theorem lookup_mem : ∀ {kvs : List (Str × Int)} {z : Str} {i : Int}, kvs.lookup z = some i → (z, i) ∈ kvs
  | [], _, _, h => by cases h
  | (k, v) :: r, z, i, h => by
    unfold List.lookup at h
    split at h
    · rename_i e
      have := eq_of_beq e
      cases h; rw [this]; simp
    · exact List.mem_cons_of_mem _ (lookup_mem h)
omit [TabList] in
theorem lookup_no : ∀ {kvs : List (Str × Int)} {z : Str}, kvs.lookup z = none → ∀ p ∈ kvs, p.1 ≠ z
  | [], _, _, p, hp => by cases hp
  | (k, v) :: r, z, h, p, hp => by
    unfold List.lookup at h
    split at h
    · cases h
    · rename_i e
      rcases List.mem_cons.mp hp with rfl | hp
      · intro w; rw [← w] at e; simp at e
      · exact lookup_no h p hp
omit [TabList] in
theorem tabN_of {K : PySem.W.Frag} {w : World} {x : Str} {kvs : List (Str × Int)} (hd : He.dicW K (He.ga K x) = some (He.keysIn w.params (kvs.map (·.1)))) (hv : tabV K (He.ga K x) kvs = true) : TabN K w x kvs := by
  refine ⟨He.dicW_ok hd, fun z => ?_⟩
  cases e : kvs.lookup z with
  | some i =>
    have q := List.all_eq_true.mp hv _ (lookup_mem e)
    dsimp only at q
    split at q
    · rename_i j t eq
      have := of_decide_eq_true q
      exact ⟨_, eq, t, by rw [this]⟩
    · cases q
  | none =>
    refine ⟨none, ?_, rfl⟩
    have no := lookup_no e
    obtain ⟨es, n, D⟩ := He.dicW_ok hd
    have hk : es.toList.map He.keyOf = He.keysIn w.params (kvs.map (·.1)) := by
      have h := hd
      unfold He.dicW at h
      rw [D.at_] at h
      dsimp only at h
      split at h
      · exact Option.some.inj h
      · cases h
    have ks := keys_in hk
    unfold PySem.W.nsIn
    rw [D.at_]
    dsimp only
    have f : es.toList.find? (·.key.isStr z) = none := by
      rw [List.find?_eq_none]
      intro d hd' q
      obtain ⟨y, t, ek, hy⟩ := ks d hd'
      rw [ek] at q
      obtain ⟨p, hp, rfl⟩ := List.mem_map.mp hy
      exact no p hp (eq_of_beq q)
    have g : es.toList.any (·.refKey) = false := by
      rw [List.any_eq_false]
      intro d hd' q
      obtain ⟨y, t, ek, hy⟩ := ks d hd'
      unfold DictEntry.refKey at q
      rw [ek] at q
      cases q
    rw [f]
    dsimp only
    rw [g]; rfl
def mTabGet (kvs : List (Str × Int)) (me mf : NE) : NE := fun e S Q => me e S fun x S1 => mf e S1 fun y S2 => match x with
  | .str z => (match kvs.lookup z with
    | some i => Q (.int i) S2
    | none => Q y S2)
  | _ => False
section
variable {X : Cx} {H0 : Hp} {w : NW} {a b : Expr} {me mf : NE} {ty tx : TE} {p1 apos pos : Pos}
def tTabGet (kvs : List (Str × Int)) (ty tx : TE) : TE := fun σ H Q => ty σ H fun y H1 => tx σ H1 fun z H2 => ∃ k, y = .str k ∧ (match kvs.lookup k with
  | some i => Q (.int i) H2
  | none => Q z H2)
theorem pe_tabget {x : Str} {kvs : List (Str × Int)} (T : TabN X.K X.w x kvs) (h : X.mg x = some (.ref (He.ga X.K x))) (he : PE X a ty) (hf : PE X b tx) (m : M2 X (.Name x p1) "get" apos a b pos) (hg : Gl X x := by rfl) (hdb : (x == ("__debug__" : Str)) = false := by decide +kernel) :
    PE X (.Call (.Attribute (.Name x p1) "get" apos) [a, b] [] pos) (tTabGet kvs ty tx) := by
  obtain ⟨es, n, D⟩ := T.kd
  refine ⟨fun pins s σ H Q I q => ?_⟩
  have ho := (pe_glob (pos := p1) (v := .ref (He.ga X.K x)) hg h rfl hdb).run pins s σ H (fun v H1 => v = .ref (He.ga X.K x) ∧ H1 = H) I ⟨rfl, rfl⟩
  refine wpAny_Call_method m.base m.few m.line PySem.F.plainAttrs_dict PySem.F.slot_dict_get PySem.F.type_dict_get (thn ho fun u s1 ⟨v, H1, I1, rx, e1, e2⟩ => ?_)
  subst e1 e2
  obtain rfl : u = Value.ref _ := rx
  refine ⟨kd_type D I1, (fun b e => by cases e; exact ⟨_, I1.kIn _ _ D.at_, rfl⟩), ?_⟩
  rw [m.trees]
  refine Calls.callWith_builtin rfl (Calls.evalArgs_plain (Calls.spliced_cons (thn (he.run pins s1 σ H1 _ I1 q) fun iv s2 ⟨y, H2, I2, ry, q2⟩ =>
    Calls.spliced_cons (thn (hf.run pins s2 σ H2 _ I2 q2) fun fv s3 ⟨z, H3, I3, rz, k, ek, q3⟩ => Calls.spliced_nil ?_))))
  subst ek
  obtain ⟨t, rfl⟩ := ry
  obtain ⟨r, e3, e4⟩ := T.at_ k
  refine call_meetsIn PySem.F.slot_dict_get (kd_type D I3) PySem.F.entry_dict_get (PySem.F.args_dict_get_3 _ _ _) (meets_dict_get_default (PySem.strKind X.prog X.w) (He.ga X.K x) (PySem.strKind_is X.prog X.w k t) D.low fv) ⟨_, PySem.W.mapOf_K (prog := X.prog) I3.kIn D.at_ D.lit, ?_⟩
  rw [PySem.W.find_K D.at_ e3]
  cases el : kvs.lookup k with
  | some i =>
    rw [el] at e4 q3
    obtain ⟨t2, rfl⟩ := e4
    exact ⟨.int i, H3, I3.tok _, ⟨t2, rfl⟩, q3⟩
  | none =>
    rw [el] at e4 q3
    subst e4
    exact ⟨z, H3, I3.tok _, rz, q3⟩
theorem je_tabget {x : Str} {kvs : List (Str × Int)} (T : TabN X.K X.w x kvs) (h : X.mg x = some (.ref (He.ga X.K x))) (he : JE X H0 a me) (hf : JE X H0 b mf) (m : M2 X (.Name x p1) "get" apos a b pos := by exact ⟨rfl, rfl, rfl, rfl⟩) (hg : Gl X x := by rfl) (hdb : (x == ("__debug__" : Str)) = false := by decide +kernel) :
    JE X H0 (.Call (.Attribute (.Name x p1) "get" apos) [a, b] [] pos) (mTabGet kvs me mf) := by
  refine (pe_tabget T h he hf m hg hdb).imq fun σ H Q ⟨e, S, Q', A, q, k⟩ => ?_
  refine ⟨e, S, _, A, q, fun x1 S1 v1 H1 x1' s1 r1 q1 => ⟨e, S1, _, A.next x1' s1, q1, fun y S2 vy H2 x2 s2 ry q2 => ?_⟩⟩
  split at q2
  · rename_i z
    cases r1
    refine ⟨z, rfl, ?_⟩
    split at q2
    · rename_i i e1
      exact k _ _ _ _ (x1'.trans x2) s2 (.int _) q2
    · rename_i e1
      exact k _ _ _ _ (x1'.trans x2) s2 ry q2
  · exact q2.elim
end
end N

set_option Elab.async false
set_option linter.all false
set_option maxRecDepth 100000
set_option maxHeartbeats 4000000
namespace N
open PySem PySem.Spec PyProof.Rows L2
variable [TabList]

/-! ### a lambda without parameters, handed to a def that calls it -/
theorem SR.lam {K : PySem.W.Frag} {S : Sto} {H H' : Hp} (h : SR K S H) (e : LamX.ExtN H H') (x : HExt H H') : SR K S H' := fun a o q => by
  have r := h a o q
  cases o with
  | lst ds => obtain ⟨vs, e1, r⟩ := r; exact ⟨vs, e _ _ e1 (fun _ z => by cases z), r.ext x⟩
  | dic kvs => obtain ⟨vs, e1, r⟩ := r; exact ⟨vs, e _ _ e1 (fun _ z => by cases z), KVR.ext x r⟩
  | ins C fs => obtain ⟨dx, vs, e1, r, c⟩ := r; exact ⟨dx, vs, e _ _ e1 (fun _ z => by cases z), KVR.ext x r, c⟩
  | exc c d => exact e _ _ r (fun _ z => by cases z)
  | xd fs => obtain ⟨vs, e1, r⟩ := r; exact ⟨vs, e _ _ e1 (fun _ z => by cases z), KVR.ext x r⟩
  | lok kvs => obtain ⟨o, vs, e1, r⟩ := r; exact ⟨o, vs, e _ _ e1 (fun _ z => by cases z), KVR.ext x r⟩
/-- what is known of the code object of a def that makes lambdas -/
structure LamT (base : Heap) (mg : Str → Option Value) (cdv : Value) (q : Str) : Prop where
  ex : ∃ c P, cdv = .ref c ∧ LamX.TabB base mg c P ∧ (P, q) ∈ TabList.T ∧ ∀ p ∈ TabList.T, p.1 = P → p.2 = q
/-- the call of the lambda f, that stands in the i-th slot -/
def mAct (i : Nat) (f : Addr) (act : NSp) (w : NW) : NE := fun e S Q => e[i]? = some (some (.ref f)) ∧ act [] S Q fun c d S' => w c d e S'
section
variable {X : Cx} {pins : List (Addr × Obj)} {σ : L2.St} {H H1 : Hp} {s : Shared} {w1 : NW} {e0 : Env} {mb : NW → NE}
theorem je_act {Eg : XK} {Ng : List Str} {qg : Str} {sg : Scope} {g f c' : Addr} {cdg pm ctv : Value} {params : Arguments} {body : Expr} {scope : Scope} {k i : Nat} {a : Str} {pn : List (Addr × Obj)} {xe : Value → Shared → Prop} {p1 p2 : Pos}
    (I : Inv X pins σ H s) (r0 : ER X.K H e0 σ) (L : LamX.LamS X.env.scope scope) (hf : s.heap.get? f = some (PySem.W.kla_obj "<lambda>" (X.env.qual ++ "<lambda>") params body scope (cloFrom X.env.cells scope.names []) pm c' ctv)) (hfn : H f = none) (hfr : f ∉ frs X.stack)
    (hbind : bindArgs (PySem.W.kla_fn "<lambda>" (X.env.qual ++ "<lambda>") params body scope (cloFrom X.env.cells scope.names []) pm (.ref c') ctv) ⟨[], []⟩ = pure [])
    (hco : H c' = some (LamX.CodeO c' (X.env.qual ++ "<lambda>"))) (hx1 : HExt H H1)
    (cx1 : NX ((cxOf (L2.CX X.prog X.w) X.prog X.w X.K X.mg X.base Ng qg sg g cdg X.A X.stack s H Eg).tr pn xe) H1 w1) (hr : Room (k + 1) (X.A.deeper (envOfC qg sg s.heap.objs.size g cdg)))
    (hbody : ∀ (A : Around) (outer : List PySem.Env) (s : Shared) (H : Hp) (E : XK) (w' : NW), Room k (A.deeper (LamX.lamEnv X scope s.heap.objs.size f c')) → NX (LamX.lamCx X A outer s H E scope f c') H w' → JE (LamX.lamCx X A outer s H E scope f c') H body (mb w'))
    (hN : Ng[i]? = some a) (hv : Vis sg a) (hd : (a == ("__debug__" : Str)) = false := by decide) (hcd : (a == ("__classdict__" : Str)) = false := by decide) :
    JE ((cxOf (L2.CX X.prog X.w) X.prog X.w X.K X.mg X.base Ng qg sg g cdg X.A X.stack s H Eg).tr pn xe) H1 (.Call (.Name a p1) [] [] p2) (mAct i f (fun _ S' Q' E' => mb (fun c d _ S2 => E' c d S2) e0 S' Q') w1) := by
  refine ⟨fun pinsZ sZ σZ HZ Q IZ h => ?_⟩
  obtain ⟨eZ, SZ, Q', AZ, ⟨m1, m2⟩, kk⟩ := h
  obtain ⟨v0, hs0, rv0⟩ := AZ.e.get m1
  cases rv0
  refine wpAny_Call_Name_kw (thn ((pe_var (pos := p1) (i := i) hN hv hd hcd).run pinsZ sZ σZ HZ (fun v H1 => v = .ref f ∧ H1 = HZ) IZ ⟨.ref f, hs0, rfl, rfl⟩) fun u s1 ⟨v, H2, I1, r1, q1⟩ => ?_)
  obtain ⟨ev, eH⟩ := q1
  subst ev
  rw [eH] at I1
  obtain rfl : u = Value.ref f := r1
  have of1 := I1.base.keep f _ hf hfn hfr (fun z => nomatch (show f ∈ ([] : List Addr) from z))
  refine PySem.W.callWith_F0 ⟨_, _, _, _, of1⟩ ?_
  have un : Un (frs X.stack) [] H HZ s.heap s1.heap := I1.base
  have hcZ : HZ c' = some (LamX.CodeO c' (X.env.qual ++ "<lambda>")) := (hx1.trans AZ.x).cod _ _ hco
  obtain ⟨⟨oc, vs, t, hoc, hdc, hvc⟩, _, _⟩ := I1.hok c' _ hcZ
  have tbZ : LamX.Tabs TabList.T HZ := AZ.x.tab cx1.tb
  have rc : codeAny (model X.prog X.w) (X.A.deeper (envOfC qg sg s.heap.objs.size g cdg)) (.call (.ref f) ⟨[], []⟩) (CR (L2.CX X.prog X.w) (envOfC qg sg s.heap.objs.size g cdg :: X.stack) X.prog X.w HZ s1 Q (WE (lW X.K H1 w1) σZ)) s1 := by
    refine PySem.W.kla_callFunE hr.depth of1 rfl L.co L.gen rfl ⟨c', oc, vs, t, rfl, hoc, hdc, hvc⟩ ?_
    rw [hbind]
    refine wpAny_pure (wpAny_newFunctionEnv (fun y hy => (L.own y hy).2) (fun y hy => absurd hy (by simp)) (fun h₁ hns hsb => ⟨I1.nolimit.fresh _ hsb, ?_⟩) L.kind)
    show codeAny _ _ (.expr body (LamX.lamEnv X scope s1.heap.objs.size f c')) _ _
    have kp : ∀ b o, s1.heap.get? b = some o → h₁.get? b = some o := fun b o e => hsb.extBut b o (Nat.ne_of_lt (Heap.lt_size e)) (Heap.get?_push_of_some _ e)
    have J : Inv (LamX.lamCx X (X.A.deeper (envOfC qg sg s.heap.objs.size g cdg)) (envOfC qg sg s.heap.objs.size g cdg :: X.stack) s1 HZ (WE (lW X.K H1 w1) σZ) scope f c') [] σ HZ { s1 with heap := h₁, toks := s1.toks + ([] : List (Str × Value)).length } :=
      LamX.lam_start2 I L I1.env0 hr.hd un hns kp
    have tk0 : Takes (LamX.lamCx X (X.A.deeper (envOfC qg sg s.heap.objs.size g cdg)) (envOfC qg sg s.heap.objs.size g cdg :: X.stack) s1 HZ (WE (lW X.K H1 w1) σZ) scope f c') (fun cls d _ H' => WE (lW X.K H1 w1) σZ cls d H') := takes_of rfl rfl rfl rfl
    have tk : Takes (LamX.lamCx X (X.A.deeper (envOfC qg sg s.heap.objs.size g cdg)) (envOfC qg sg s.heap.objs.size g cdg :: X.stack) s1 HZ (WE (lW X.K H1 w1) σZ) scope f c') (lW X.K HZ fun c d _ S2 => w1 c d eZ S2) :=
      tk0.imp fun cls d σ' H' ⟨c, e, S', ec, A', q⟩ => ⟨c, eZ, S', ec, AZ.next A'.x A'.s, q⟩
    refine PySem.W.kla_codeExpr (wpAny_mono ((hbody _ _ s1 HZ _ _ (hr.deeper _) ⟨tk, passes_of rfl, rfl, tbZ⟩).run [] _ _ HZ Q J ⟨e0, SZ, Q', ⟨.refl HZ, r0.ext (hx1.trans AZ.x), AZ.s⟩, m2, kk⟩) (fun v s' hq => ?_) fun e s' hq => hq)
    obtain ⟨w', H', J', rv, q⟩ := hq
    exact ⟨w', H', J'.os, J'.bare, J'.base, J'.hok, rv, q⟩
  refine wpAny_call (codeAny_mono rc fun r s' hq => ?_)
  cases r with
  | error e => exact passAt cx1.tk σZ pinsZ HZ s1 e s' I1 hq
  | ok fl =>
    cases fl with
    | ret u => exact I1.after hq
    | next => exact False.elim hq
    | brk => exact False.elim hq
    | cont => exact False.elim hq
end
/-- the promise of a def that calls the lambda it is given -/
def spAct (N : Nat) (mT : Addr → NSp → NW → NS) : NSp → NSp := fun act _ S Q E => ∀ f, S f = none → mT f act (fun c d _ S' => E c d S') { nx := fun _ S' => Q .non S', rt := Q } (startN N [.ref f]) S
/-- x(lambda: body) -/
def mLam (spT : NSp → NSp) (w : NW) (mb : NW → NE) : NE := fun e S Q => spT (fun _ S' Q' E' => mb (fun c d _ S2 => E' c d S2) e S' Q') [] S Q fun c d S' => w c d e S'
section
variable {X : Cx} {H0 : Hp} {w : NW} {mb : NW → NE}
theorem je_lam {x a : Str} {g : Addr} {k n : Nat} {pg : Arguments} {bg : List Stmt} {sg : Scope} {fd : FuncData} {Ng : List Str} {mT : Addr → NSp → NW → NS}
    {params : Arguments} {body : Expr} {scope : Scope} {p lpos pos : Pos} (cx : NX X H0 w) (F : FunD X.K x x pg bg sg [] [] g fd) (hm : X.mg x = some (.ref g)) (hb : Binds X.K fd [a] []) (Sg : FnScope Ng [a] sg)
    (LT : LamT X.base X.mg X.env.code (X.env.qual ++ "<lambda>")) (hr : Room (k + 2) X.A)
    (hT : ∀ (cdv : Value) (A : Around) (outer : List PySem.Env) (s : Shared) (H : Hp) (E : XK) (w' : NW) (f : Addr) (act : NSp), Room (k + 1) (A.deeper (envOfC x sg s.heap.objs.size g cdv)) → NX (cxOf (L2.CX X.prog X.w) X.prog X.w X.K X.mg X.base Ng x sg g cdv A outer s H E) H w' →
      (∀ (H1 : Hp) (w1 : NW) (pn : List (Addr × Obj)) (xe : Value → Shared → Prop) (p1 p2 : Pos), HExt H H1 → NX ((cxOf (L2.CX X.prog X.w) X.prog X.w X.K X.mg X.base Ng x sg g cdv A outer s H E).tr pn xe) H1 w1 →
        JE ((cxOf (L2.CX X.prog X.w) X.prog X.w X.K X.mg X.base Ng x sg g cdv A outer s H E).tr pn xe) H1 (.Call (.Name a p1) [] [] p2) (mAct 0 f act w1)) →
      JSs (cxOf (L2.CX X.prog X.w) X.prog X.w X.K X.mg X.base Ng x sg g cdv A outer s H E) H bg (mT f act w'))
    (hbody : ∀ (A : Around) (outer : List PySem.Env) (s : Shared) (H : Hp) (E : XK) (w' : NW) (f c' : Addr), Room k (A.deeper (LamX.lamEnv X scope s.heap.objs.size f c')) → NX (LamX.lamCx X A outer s H E scope f c') H w' → JE (LamX.lamCx X A outer s H E scope f c') H body (mb w'))
    (hn : Ng.length = n) (hNg : Ng[0]? = some a) (hva : Vis sg a) (hL : LamX.lamSB X.env.scope scope = true) (hdef : defaultsOf params X.env = ([], []))
    (hbind : ∀ (q : Str) (cl : List (Str × Addr)) (pm cv ctv : Value), bindArgs (PySem.W.kla_fn "<lambda>" q params body scope cl pm cv ctv) ⟨[], []⟩ = pure [])
    (hg : Gl X x := by rfl) (hdb : (x == ("__debug__" : Str)) = false := by decide +kernel) (hd : (a == ("__debug__" : Str)) = false := by decide) (hcd : (a == ("__classdict__" : Str)) = false := by decide) :
    JE X H0 (.Call (.Name x p) [.Lambda params body scope lpos] [] pos) (mLam (spAct n mT) w mb) := by
  subst hn
  have L := LamX.lamS_by hL
  obtain ⟨c, P, hcode, TB, hmT, hu⟩ := LT.ex
  have kpF := F.kp
  obtain ⟨oc, od, dV, kV, doc, pm, an, cdv, ct, osl, rfl, lk, hcg, _, _⟩ := F.ex
  refine ⟨fun pins s σ H Q I h => ?_⟩
  obtain ⟨e, S, Q', A, m, kk⟩ := h
  refine wpAny_Call_Name_kw (ld_glob I hg hm ?_ hdb)
  refine PySem.W.callWith_K (h₀ := X.base) I.ok.mod.kin kpF ?_ (by rfl) (by rfl)
  show wpAny _ _ (spliced ((false, eval (.Lambda params body scope lpos) X.env) :: backTo pos (starEach [] X.env))) _ _ s
  refine Calls.spliced_cons (LamX.lam_make2 I TB hcode hmT hu (A.x.tab cx.tb) hdef (L.has I.ok) fun f c' pm' ctv H1 s' I1 eN T1 hf hfn hfr hco => ?_)
  refine Calls.spliced_nil ⟨I1.kIn, ?_⟩
  have x1 : HExt H H1 := .lam eN T1
  have A1 := A.next x1 (A.s.lam eN x1)
  have rc : codeAny (model X.prog X.w) X.A (.call (.ref g) ⟨[.ref f], []⟩) (CR (L2.CX X.prog X.w) X.stack X.prog X.w H1 s' Q (WE (lW X.K H0 w) σ)) s' := by
    refine LamX.run_ofS (k := k + 1) (N := Ng) (ps := [a]) (us := [.ref f]) (vs := [.ref f]) lk hcg Sg hr I1.env0 (hb s' [.ref f] I1.kIn rfl) (.cons rfl .nil) rfl fun hr' => ?_
    have tk0 : Takes (cxOf (L2.CX X.prog X.w) X.prog X.w X.K X.mg X.base Ng x sg g cdv X.A X.stack s' H1 (WE (lW X.K H0 w) σ)) (fun cls d _ H' => WE (lW X.K H0 w) σ cls d H') := takes_of rfl rfl rfl rfl
    have tk : Takes (cxOf (L2.CX X.prog X.w) X.prog X.w X.K X.mg X.base Ng x sg g cdv X.A X.stack s' H1 (WE (lW X.K H0 w) σ)) (lW X.K H1 fun c d _ S2 => w c d e S2) :=
      tk0.imp fun cls d σ' H' ⟨c, e', S', ec, A', q⟩ => ⟨c, e, S', ec, A1.next A'.x A'.s, q⟩
    refine ⟨_, hT cdv X.A X.stack s' H1 _ _ f _ hr' ⟨tk, passes_of rfl, rfl, T1⟩ (fun H2 w1 pn xe p1 p2 hx2 cx2 => je_act (i := 0) I1 A1.e L hf hfn hfr (hbind _ _ _ _ _) hco hx2 cx2 hr' (fun A outer s H E w' => hbody A outer s H E w' f c') hNg hva hd hcd), ?_⟩
    refine ⟨startN Ng.length [.ref f], S, _, ⟨.refl H1, ?_, A1.s⟩, m f (A1.s.fresh hfn), ⟨fun e S' σ' H' x A' q => kk _ _ _ _ (x1.trans x) A'.s .non q, fun d S' v H' x s r q => kk _ _ _ _ (x1.trans x) s r q, fun _ _ _ _ _ _ q => q, fun _ _ _ _ _ _ q => q⟩⟩
    rw [startN_eq]
    exact ER.app (ER.some (.cons (.ref f) .nil)) (ER.none _)
  refine wpAny_call (codeAny_mono rc fun r s2 hq => ?_)
  cases r with
  | error e => exact passAt cx.tk σ pins H1 s' e s2 I1 hq
  | ok fl =>
    cases fl with
    | ret u => exact I1.after hq
    | next => exact False.elim hq
    | brk => exact False.elim hq
    | cont => exact False.elim hq
end
/-- the name of the lambdas of a def of the top -/
def lamQ (x : Str) : Str := x ++ ".<locals>." ++ "<lambda>"
theorem code_of {K : PySem.W.Frag} {x y qual : Str} {params : Arguments} {body : List Stmt} {scope : Scope} {dvs : List V} {kws : List (Str × V)} {fd : FuncData} {c P : Addr} (F : FunD K y qual params body scope dvs kws (He.ga K x) fd) (h : PySem.W.tabIn K x = some (c, P)) : fd.code = .ref c := by
  obtain ⟨oc, od, dV, kV, doc, pm, an, cdv, ct, osl, e0, lk, _⟩ := F.ex
  unfold PySem.W.tabIn at h
  split at h
  · rename_i f hf
    have eg : He.ga K x = f := by unfold He.ga; rw [hf]
    rw [eg] at lk
    rw [lk] at h
    dsimp only at h
    split at h
    · rename_i c2 hc
      split at h
      · split at h
        · cases h; exact hc
        · cases h
      · cases h
    · cases h
  · cases h
theorem fn_bodyL {P : Program} {w : World} {K : PySem.W.Frag} {mg : Str → Option Value} {base : Heap} {x qual : Str} {params : Arguments} {body : List Stmt} {scope : Scope} {fd : FuncData} {N ps : List Str} {k : Nat} {m : NW → NS}
    (F : FunD K x qual params body scope [] [] (He.ga K x) fd) (S : FnScope N ps scope) {q : Str} (lt : ∃ c P, PySem.W.tabIn K x = some (c, P) ∧ LamX.TabB base mg c P ∧ (P, q) ∈ TabList.T ∧ ∀ p ∈ TabList.T, p.1 = P → p.2 = q)
    (hb : ∀ (cdv : Value) (A : Around) (outer : List PySem.Env) (s : Shared) (H : Hp) (E : XK) (w' : NW), LamT base mg cdv q → Room k (A.deeper (envOfC qual scope s.heap.objs.size (He.ga K x) cdv)) → NX (cxOf (L2.CX P w) P w K mg base N qual scope (He.ga K x) cdv A outer s H E) H w' →
      JSs (cxOf (L2.CX P w) P w K mg base N qual scope (He.ga K x) cdv A outer s H E) H body (m w')) :
    FnOk P w K mg base (L2.CX P w) (k + 1) (He.ga K x) fd ps (lSp K ps.length (spOf N.length m)) := by
  obtain ⟨c, Pt, ht, tb, t1, t2⟩ := lt
  have hcode := code_of F ht
  obtain ⟨oc, od, dV, kV, doc, pm, an, cdv, ct, osl, rfl, lk, hcd, _, _⟩ := F.ex
  have ec : cdv = .ref c := hcode
  refine fn_of lk hcd S (fun vs H Q E h => h.len) fun A outer s H vs Q E hr h => ?_
  obtain ⟨ds, S0, Q', E', h1, h2, h3, h3t, h4, h5, h6⟩ := h
  have tk0 : Takes (cxOf (L2.CX P w) P w K mg base N qual scope (He.ga K x) cdv A outer s H E) (fun cls d _ H' => E cls d H') := takes_of rfl rfl rfl rfl
  have tk : Takes (cxOf (L2.CX P w) P w K mg base N qual scope (He.ga K x) cdv A outer s H E) (lW K H fun c d _ S' => E' c d S') :=
    tk0.imp fun cls d σ H' ⟨c, e, S', ec, A', q⟩ => by
      rw [ec]; exact h6 c d S' H' A'.x A'.s q
  refine ⟨_, hb cdv A outer s H E _ ⟨c, Pt, ec, tb, t1, t2⟩ hr ⟨tk, passes_of rfl, rfl, h3t⟩, ?_⟩
  refine ⟨startN N.length ds, S0, _, ⟨.refl H, ?_, h3⟩, h4, ⟨fun e S' σ' H' x A' q => h5 _ _ _ _ x A'.s .non q, fun d S' v H' x s r q => h5 _ _ _ _ x s r q, fun _ _ _ _ _ _ q => q, fun _ _ _ _ _ _ q => q⟩⟩
  rw [startN_eq]
  unfold L2.start
  rw [h2.length]
  exact ER.app (ER.some h2) (ER.none _)
end N

set_option Elab.async false
set_option linter.all false
set_option maxRecDepth 100000
set_option maxHeartbeats 4000000
namespace N
variable [TabList]
open PySem PySem.Spec PyProof.Rows L2

/-! ### methods, the room apart -/
structure MtK (P : Program) (w : World) (K : PySem.W.Frag) (mg : Str → Option Value) (base : Heap) (m : Str) (mt : MT) (k : Nat) : Prop where
  ok : ∀ c n sp, mt c = some (n, sp) → ∃ f, Meth K (He.ga K c) m f ∧ Fn P w K mg base k f n sp
theorem Fn.mono {P : Program} {w : World} {K : PySem.W.Frag} {mg : Str → Option Value} {base : Heap} {j k : Nat} {f : Addr} {n : Nat} {sp : NSp} (F : Fn P w K mg base j f n sp) (h : j ≤ k) : Fn P w K mg base k f n sp := by
  obtain ⟨fd, ps, h1, h2, h3⟩ := F.ex
  exact ⟨⟨fd, ps, h1, h2.mono h, h3⟩, F.kp⟩
section
variable {X : Cx} {H0 : Hp} {w : NW} {a o : Expr} {mo : NE} {pos : Pos} {es : List Expr} {mr : NA} {k : Nat}
theorem MtK.at {m : Str} {mt : MT} (h : MtK X.prog X.w X.K X.mg X.base m mt k) (hr : Room k X.A) : MtOk X m mt := ⟨fun c n sp e => let ⟨f, h1, h2⟩ := h.ok c n sp e; ⟨f, k, hr, h1, h2⟩⟩
theorem je_methK {m : Str} {mt : MT} {apos : Pos} {pl : Sem Bool} (cx : NX X H0 w) (h : MtK X.prog X.w X.K X.mg X.base m mt k) (hr : Room k X.A) (he : JE X H0 o mo) (ha : JA X H0 (a :: es) mr)
    (hst : starEach (a :: es) X.env = (false, eval a X.env) :: starEach es X.env := by rfl) (hpl : (backTo pos (starEach es X.env)).any (·.1) = false := by rfl)
    (ht : eval (.Call (.Attribute o m apos) (a :: es) [] pos) X.env = (do
      let ov ← eval o X.env
      standAt apos.atName
      let (f, first) ← holding [ov] (getMethod ov m pl)
      callWith pos f first (backTo pos (starEach (a :: es) X.env)) (backToKw pos (keywordEach [] X.env))) := by rfl) :
    JE X H0 (.Call (.Attribute o m apos) (a :: es) [] pos) (mMeth m mt w mo mr) := je_meth cx (h.at hr) he ha hst hpl ht
theorem je_methK0 {m : Str} {mt : MT} {apos : Pos} {pl : Sem Bool} (cx : NX X H0 w) (h : MtK X.prog X.w X.K X.mg X.base m mt k) (hr : Room k X.A) (he : JE X H0 o mo)
    (ht : eval (.Call (.Attribute o m apos) [] [] pos) X.env = (do
      let ov ← eval o X.env
      standAt apos.atName
      let (f, first) ← holding [ov] (getMethod ov m pl)
      callWith pos f first (backTo pos (starEach [] X.env)) (backToKw pos (keywordEach [] X.env))) := by rfl) :
    JE X H0 (.Call (.Attribute o m apos) [] [] pos) (mMeth m mt w mo mNil) := je_meth0 cx (h.at hr) he ht
end

/-! ### what the head looks at -/
def excB (K : PySem.W.Frag) (D : Addr) : Bool := He.eqO (PySem.W.findIn K (.ref D) "__getattribute__") (some (some (.builtin "BaseException.__getattribute__"))) && (He.eqO (PySem.W.findIn K (.ref D) "__getattr__") (some none) &&
  (decide (PySem.W.subIn K (.ref D) (.type "BaseException") = some true) && (PySem.W.hasDictIn K D && (He.eqO (PySem.W.findIn K (.ref D) "__class__") (some (some (.builtin "object.__class__"))) &&
  (He.eqO (PySem.W.specialIn K (.builtin "object.__class__") "__get__") (some (some (.builtin "getset_descriptor.__get__"))) && (decide (PySem.W.takesIn K (.builtin "object.__class__") = some true) && decide (PySem.W.mroIn K D (.type "object") = some true)))))))
theorem excB_ok {K : PySem.W.Frag} {D : Addr} (h : excB K D = true) : ExcC K D := by
  obtain ⟨h1, h⟩ := He.ba h
  obtain ⟨h2, h⟩ := He.ba h
  obtain ⟨h3, h⟩ := He.ba h
  obtain ⟨h4, h⟩ := He.ba h
  obtain ⟨h5, h⟩ := He.ba h
  obtain ⟨h6, h⟩ := He.ba h
  obtain ⟨h7, h8⟩ := He.ba h
  exact ⟨He.eqO_ok h1, He.eqO_ok h2, of_decide_eq_true h3, h4, He.eqO_ok h5, He.eqO_ok h6, of_decide_eq_true h7, of_decide_eq_true h8⟩
def kfW (CL : List Str) (K : PySem.W.Frag) : Bool := ((T1 CL).all fun t => (T2 CL).all fun u => decide (PySem.W.kitOne K (t.v K) (u.v K) = some (isT t u))) && ((CL.all fun c => excB K (He.ga K c)) && CL.all fun c => (Str.ofString "MartError" :: CL).all fun x => decide (PySem.W.exmOne K (.ref (He.ga K c)) (.ref (He.ga K x)) = some (isT (.cls c) (.cls x))))
theorem kfW_ok {CL : List Str} {K : PySem.W.Frag} (h : kfW CL K = true) : KF CL K := by
  obtain ⟨h1, h⟩ := He.ba h
  obtain ⟨h2, h3⟩ := He.ba h
  exact ⟨fun t ht u hu => of_decide_eq_true (List.all_eq_true.mp (List.all_eq_true.mp h1 t ht) u hu), fun c hc => excB_ok (List.all_eq_true.mp h2 c hc)⟩
theorem kxW_ok {CL : List Str} {K : PySem.W.Frag} (h : kfW CL K = true) : KX CL K := by
  obtain ⟨h1, h⟩ := He.ba h
  obtain ⟨h2, h3⟩ := He.ba h
  exact ⟨fun c hc x hx => of_decide_eq_true (List.all_eq_true.mp (List.all_eq_true.mp h3 c hc) x hx)⟩
def clsW (K : PySem.W.Frag) (c : Str) : Bool := (He.Fa.cls c).ok K && FN.all fun f => (He.Fa.noat c f).ok K
theorem clsW_ok {K : PySem.W.Frag} {c : Str} (h : clsW K c = true) : ClsOk K c := by
  obtain ⟨h1, h2⟩ := He.ba h
  exact ⟨He.cls_ok h1, fun f hf => He.noat_ok (List.all_eq_true.mp h2 f hf)⟩
abbrev AlN : Type := He.AlD × Bool
/-- addresses, each once: those that were met are the bits of s -/
def addB {β : Type} : List Addr → List Addr → Nat → (List Addr → Nat → β) → β
  | [], acc, s, k => k acc s
  | a :: r, acc, s, k => HandSHeadRun.frNat a fun a' => match Nat.beq (Nat.mod (Nat.shiftRight s a') 2) 1 with
    | true => addB r acc s k
    | false => HandSHeadRun.frNat (Nat.lor s (Nat.shiftLeft 1 a')) fun s' => addB r (a' :: acc) s' k
def levB (g : Addr → Option Obj) : Nat → List Addr → List Addr → Nat → List Addr
  | 0, all, fr, _ => all ++ fr
  | n + 1, all, fr, s => addB (fr.flatMap fun a => match g a with
    | some o => He.refsD o
    | none => []) [] s fun fr' s' => levB g n (all ++ fr) fr' s'
/-- the places that are looked at, as far as n steps lead: tables of code objects are none -/
def asN (g : Addr → Option Obj) (n : Nat) : List Addr := (levB g n [] [mainGlobals] (Nat.shiftLeft 1 mainGlobals)).filter fun a => match g a with
  | some ⟨.none, _, .fields vs, _⟩ => vs.size != 0
  | _ => true
def obsN (n : Nat) (fa : List He.Fa) (fn : List He.DefD) (ex : PySem.W.Frag → Bool) (g : Addr → Option Obj) : AlN := (He.obsD fa fn (He.frG g (asN g n)), ex (He.frG g (asN g n)))
def hookN (n : Nat) (fa : List He.Fa) (fn : List He.DefD) (ex : PySem.W.Frag → Bool) : PySem.W.Hook where
  α := AlN
  obs := fun s => obsN n fa fn ex s.heap.get?
  val := fun _ => (He.valD fn, true)
  says := fun _ h => ∃ K : PySem.W.Frag, K.In h ∧ He.SaysD fa fn K ∧ ex K = true
  of := fun _ _ e => ⟨_, He.frG_in, congrArg (fun z : AlN => z.1) e, congrArg (fun z : AlN => z.2) e⟩
  keeps := fun _ _ _ ⟨K, hK, c⟩ k => ⟨K, PySem.W.Frag.In.keeps hK k, c⟩
omit [TabList] in
theorem obsN_eq {n : Nat} {fa : List He.Fa} {fn : List He.DefD} {ex : PySem.W.Frag → Bool} {g : Addr → Option Obj} {s : Shared} (h : ∀ a, g a = s.heap.get? a) : obsN n fa fn ex g = (hookN n fa fn ex).obs s := by
  have e : g = s.heap.get? := funext h
  rw [e] <;> rfl

omit [TabList] in
/-- the run's equation, in three parts -/
theorem runEq_of {r : PySem.W.OpenRow} {q : Program} {M n : Nat} {loose : List Str} {w : World} {fa : List He.Fa} {fn : List He.DefD} {ex : PySem.W.Frag → Bool} {ob : PySem.W.SharedT → AlN} {kq : PySem.W.SharedT → PySem.W.Frag}
    (hob : ∀ s, ob s = obsN n fa fn ex (HandSHeadRun.getT s)) (hk : ∀ s, kq s = He.frG (HandSHeadRun.getT s) (asN (HandSHeadRun.getT s) n))
    (hD : ∀ os : OsState, (HandSHeadRun.endF (HandSHeadRun.stepQ (HandSHeadRun.denQ HandSHeadRun.tabQ) r.prog w) M r.prog w os).map (fun s => (HandSHeadRun.looksF r.prog (PySem.W.boot_heap w.params) s.abs, HandSHeadRun.seenQ q loose (importedModules r.prog.main.body) (fun s => PySem.W.xlAt q [] s && PySem.W.recOk r.toRowW.records s) s.abs)) = some (true, PySem.W.openGood q loose))
    (hE : ∀ os : OsState, (HandSHeadRun.endF (HandSHeadRun.stepQ (HandSHeadRun.denQ HandSHeadRun.tabQ) r.prog w) M r.prog w os).map (fun s => ex (kq s) && ((fa.all fun f => f.ok (kq s)) && fn.all fun d => d.ok (kq s))) = some true)
    (hF : ∀ os : OsState, (HandSHeadRun.endF (HandSHeadRun.stepQ (HandSHeadRun.denQ HandSHeadRun.tabQ) r.prog w) M r.prog w os).map (fun s => fn.map fun d => He.fnW (kq s) d.at_) = some (fn.map He.DefD.val)) :
    HandSHeadRun.RunEq r q (hookN n fa fn ex) ob M loose w := by
  intro os
  have d := hD os
  have e := hE os
  have f := hF os
  cases h : HandSHeadRun.endF (HandSHeadRun.stepQ (HandSHeadRun.denQ HandSHeadRun.tabQ) r.prog w) M r.prog w os with
  | none => rw [h] at d; cases d
  | some s =>
    rw [h] at d e f
    simp only [Option.map_some, Option.some.injEq] at d e f ⊢
    obtain ⟨e1, e2⟩ := He.ba e
    rw [hk] at e1 e2 f
    obtain ⟨d1, d2⟩ := Prod.mk.inj d
    rw [d1, d2, hob]
    have e3 : obsN n fa fn ex (HandSHeadRun.getT s) = ((true, fn.map He.DefD.val), true) := by
      unfold obsN He.obsD
      rw [e1, e2, f]
    rw [e3]
    rfl
/-! ### the end -/
theorem cx_none {P : Program} {w : World} {H : Hp} {s : Shared} {e : Value} {s' : Shared} (h : L2.CX P w [] H s (fun _ _ _ => False) e s') : False := by
  obtain ⟨_, _, _, _, _, _, _, _, _, _, _, _, z⟩ := h
  exact z.elim
omit [TabList] in
theorem walk_ofN {l : PySem.W.OpenLaw} {k : Nat} {q : Program} {loose : List Str} {XP : (Str → Option Value) → Heap → Prop} {YP : World → Heap → Prop} {d : DefRec} {x : Str} {sp : NSp}
    (hn : l.most = some 63) (hdf : d.params.defaults = []) (hr : Room k callerA)
    (plain : ∀ ns : List Int, ns.length ≤ 63 → sp [.rol (ns.map D.int)] (fun _ => none) (fun d _ => d = .bl true) (fun _ _ _ => False))
    (F : ∀ (w : World) (mg : Str → Option Value) (fa : Addr) (h : Heap), YP w h → h.Ns mainGlobals mg → mg d.name = some (.ref fa) →
      ∃ (K : PySem.W.Frag) (fd : FuncData), K.In h ∧ (∀ (s : Shared) (u : Value), BindsTo s fd ⟨[u], []⟩ [(x, u)]) ∧
        ∀ base : Heap, K.In base → base.Ns mainGlobals mg → FnOk l.prog w K mg base (L2.CX l.prog w) k fa fd [x] (@lSp ⟨[]⟩ K 1 sp)) :
    PySem.W.WalkO q loose XP YP l.row.toRowW d [] (fun f vs => PySem.call f vs) := by
  letI : TabList := ⟨[]⟩
  refine Att.attach_call hn hdf fun w s₀ s₁ mg mb fa o pm cd doc a vs ns G Y ho hd hcd hmg hobj hints hlen hg => ?_
  obtain ⟨K, fd, KX, hb, hF⟩ := F w mg fa _ Y G.T.g hmg
  refine law_call KX G.T.g G.T.b G.T.builtins G.T.nolimit hg hobj hints (Nat.le_trans hlen (by decide)) hr hF hb (fun H hO hS => ?_) fun H e s' => cx_none
  refine ⟨[.rol (ns.map D.int)], fun _ => none, _, _, rfl, .cons (.rol (vs := ns.map V.int) ?_ VRs.ints) .nil, fun a o e => (by cases e), fun p hp => (by cases hp), plain ns hlen, fun d S' v H' _ _ r e => ?_, fun _ _ _ _ _ _ z => z⟩
  · rcases hS with (h | ⟨ob, h⟩) | h
    · rcases hO a with z | ⟨o, xs, z⟩
      · rw [h] at z; cases z
      · rw [h] at z; cases z
    · exact .inl ⟨ob, h⟩
    · exact .inr h
  · subst e
    cases r; rfl
end N

set_option Elab.async false
set_option linter.all false
set_option maxRecDepth 100000
set_option maxHeartbeats 4000000
namespace N
open PySem PySem.Spec PyProof.Rows L2
/-! ### the end of a law whose defs make lambdas -/
/-- which tables there are: LN, the defs that make lambdas and the names of these -/
def tabsL (LN : List (Str × Str)) (K : PySem.W.Frag) : List (Addr × Str) := LN.filterMap fun x => (PySem.W.tabIn K x.1).map fun p => (p.2, x.2)
def tabsB (LN : List (Str × Str)) (K : PySem.W.Frag) : Bool := (LN.all fun x => match PySem.W.tabIn K x.1 with
    | some p => (K.lookup p.2).isNone
    | none => false) && (tabsL LN K).all fun p => (tabsL LN K).all fun r => !decide (p.1 = r.1) || decide (p.2 = r.2)
/-- where the law is called: what is tracked there -/
def hp0 (K : PySem.W.Frag) (ts : List Addr) (a : Addr) (ob : Obj) (xs : List V) : Hp := fun b => if b ∈ ts then some (.tbl #[]) else if b = a ∧ K.lookup a = none then some (.frz ob (.lst xs)) else none
section
variable {P : Program} {w : World} {K : PySem.W.Frag} {mg mb : Str → Option Value} {CX : CXT} {k : Nat} {fa a : Addr} {cs : List (Addr × Addr)} {fd : FuncData} {x : Str} {sp : Sp} {s₁ : Shared} {vs : List Value} {ns : List Int}
theorem law_callN (KX : K.In s₁.heap) (hns : s₁.heap.Ns mainGlobals mg) (hb : s₁.heap.Ns builtinsNs mb) (hbb : ∀ x : Str, x ≠ "__name__" → mb x = bootBuiltins x) (hlim : s₁.heap.NoLimit) (hg : s₁.gens = #[])
    (hT : ∀ p ∈ cs, s₁.heap.get? p.2 = some { cls := .none, data := .fields #[] }) (nT : ∀ p ∈ cs, K.lookup p.2 = none) (C : ∀ p ∈ cs, PySem.W.CodeHd s₁.heap p.1 p.2)
    (hbm : ∃ (bm : Addr) (ob : Obj), mg "__builtins__" = some (.ref bm) ∧ bm ≠ builtinsNs ∧ s₁.heap.get? bm = some ob ∧ ob.cls = .type "module" ∧ ob.dict = some builtinsNs ∧ ob.data = .plain)
    (ha : s₁.heap.get? a = some { cls := .type "list", data := .seq vs.toArray }) (hi : IntsAre vs ns) (hl : ns.length ≤ sizeLine) (hr : Room k callerA)
    (F : ∀ base : Heap, K.In base → base.Ns mainGlobals mg → (∀ p ∈ cs, LamX.TabB base mg p.1 p.2) → FnOk P w K mg base CX k fa fd [x] sp) (hbind : ∀ (s : Shared) (u : Value), BindsTo s fd ⟨[u], []⟩ [(x, u)])
    (hsp : ∀ H : Hp, (∀ p ∈ cs, H p.2 = some (.tbl #[])) → RolR K H a (ns.map V.int) → sp [.ref a] H (fun v _ => v = .bl true) fun _ _ _ => False)
    (hCX : ∀ H e s', CX [] H s₁ (fun _ _ _ => False) e s' → False) :
    codeAny (model P w) callerA (.call (.ref fa) ⟨[.ref a], []⟩) (fun r s' => r = .ok (.ret (.bool true)) ∧ OldK s₁.heap s'.heap ∧ s'.os = s₁.os ∧ AllBare s'.gens) s₁ := by
  have rv := vals_ints hi
  have lenV := hi.length
  have mT : ∀ {b}, b ∈ cs.map (·.2) → ∃ p ∈ cs, p.2 = b := fun hb => List.mem_map.mp hb
  have tm : ∀ p ∈ cs, p.2 ∈ cs.map (·.2) := fun p hp => List.mem_map.mpr ⟨p, hp, rfl⟩
  have tO : ∀ {b}, b ∈ cs.map (·.2) → s₁.heap.get? b = some { cls := .none, data := .fields #[] } := fun hb => let ⟨p, hp, e⟩ := mT hb; e ▸ hT p hp
  have aT : a ∉ cs.map (·.2) := fun z => by
    have q := (tO z).symm.trans ha
    cases q
  obtain ⟨ob, eob⟩ : ∃ ob : Obj, ob = { cls := .type "list", data := .seq vs.toArray } := ⟨_, rfl⟩
  have ha' : s₁.heap.get? a = some ob := eob ▸ ha
  obtain ⟨H, eH⟩ : ∃ H, H = hp0 K (cs.map (·.2)) a ob (ns.map V.int) := ⟨_, rfl⟩
  have H1 : ∀ p ∈ cs, H p.2 = some (.tbl #[]) := fun p hp => by rw [eH]; exact if_pos (tm p hp)
  -- the three kinds of place
  have kind : ∀ b, H b = none ∨ (b ∈ cs.map (·.2) ∧ H b = some (.tbl #[])) ∨ (b = a ∧ K.lookup a = none ∧ H b = some (.frz ob (.lst (ns.map V.int)))) := fun b => by
    rw [eH]; unfold hp0
    by_cases h1 : b ∈ cs.map (·.2)
    · exact .inr (.inl ⟨h1, if_pos h1⟩)
    · rw [if_neg h1]
      by_cases h2 : b = a ∧ K.lookup a = none
      · exact .inr (.inr ⟨h2.1, h2.2, if_pos h2⟩)
      · exact .inl (if_neg h2)
  have hS : RolR K H a (ns.map V.int) := by
    cases hk : K.lookup a with
    | some o =>
      have e := KX a o hk
      rw [ha] at e
      cases e
      exact .inr ⟨_, vs.toArray, _, hk, rfl, rfl, rfl, by rw [List.size_toArray, lenV]; exact hl, by simpa using rv⟩
    | none => exact .inl ⟨ob, by rw [eH]; unfold hp0; rw [if_neg aT, if_pos ⟨rfl, hk⟩]⟩
  have hok : HOk P w H s₁.heap := fun b u e => by
    rcases kind b with z | ⟨z1, z2⟩ | ⟨z1, _, z2⟩
    · rw [e] at z; cases z
    · rw [e] at z2; cases z2; exact tO z1
    · rw [e] at z2; cases z2
      subst z1; subst eob
      exact ⟨ha, by rw [List.length_map]; exact hl, vs, _, rv, ha⟩
  -- what is no list and no table stays in the base
  have off : ∀ {b : Addr} {o : Obj}, s₁.heap.get? b = some o → (∀ xs n, o.data ≠ .seq xs n) → o.data ≠ .fields #[] → H b = none := fun {b o} e h1 h2 => by
    rcases kind b with z | ⟨z1, z2⟩ | ⟨z1, _, z2⟩
    · exact z
    · rw [tO z1] at e; cases e; exact (h2 rfl).elim
    · rw [z1, ha] at e; cases e; exact (h1 _ _ rfl).elim
  have base_of : ∀ {b : Addr} {o : Obj}, s₁.heap.get? b = some o → (∀ xs n, o.data ≠ .seq xs n) → o.data ≠ .fields #[] → (hidT s₁.heap H).get? b = some o := fun e h1 h2 => hidT_get e (off e h1 h2)
  have nsK : ∀ {b : Addr} {m : Str → Option Value}, s₁.heap.Ns b m → (hidT s₁.heap H).Ns b m := fun {b m} ⟨o, es, ep, e, d, r⟩ => ⟨o, es, ep, base_of e (fun xs n z => by rw [d] at z; cases z) (fun z => by rw [d] at z; cases z), d, r⟩
  have hKb : K.In (hidT s₁.heap H) := fun b o e => hidT_get (KX b o e) (by
    rcases kind b with z | ⟨z1, z2⟩ | ⟨z1, z2, _⟩
    · exact z
    · obtain ⟨p, hp, ep⟩ := mT z1
      rw [← ep, nT p hp] at e; cases e
    · rw [z1, z2] at e; cases e)
  have hM : L2.Mod K mg (hidT s₁.heap H) := ⟨hKb, nsK hns, ⟨mb, nsK hb, hbb⟩, let ⟨mc, h1, h2⟩ := hlim; ⟨mc, nsK h1, h2⟩⟩
  have TB : ∀ p ∈ cs, LamX.TabB (hidT s₁.heap H) mg p.1 p.2 := fun p hp => by
    have hTp := hT p hp
    refine ⟨?_, ?_, fun z => ?_⟩
    · obtain ⟨o, us, file, tf, flags, tg, inF, text, tt, e1, r1, r2, r3, rr⟩ := C p hp
      exact ⟨o, us, file, tf, flags, tg, inF, text, tt, base_of e1 (fun xs n z => by rw [r2] at z; cases z) (fun z => by rw [r2] at z; cases z; simp at r3), r1, r2, r3, rr⟩
    · obtain ⟨bm, om, b1, b2, b3, b4, b5, b6⟩ := hbm
      have nG : bm ≠ mainGlobals := fun q => by
        obtain ⟨o, es, ep, e, hd, _⟩ := hns
        rw [q, e] at b3
        cases b3
        rw [hd] at b6; cases b6
      have nP : bm ≠ p.2 := fun q => by
        rw [q, hTp] at b3
        cases b3; cases b6
      exact ⟨bm, om, b1, b2, nG, nP, base_of b3 (fun xs n z => by rw [b6] at z; cases z) (fun z => by rw [b6] at z; cases z), b4, b5, b6⟩
    · obtain ⟨o, es, ep, e, hd, _⟩ := hns
      rw [z, hTp] at e
      cases e; cases hd
  have e0 : Env0 P w K mg (hidT s₁.heap H) callerA [] s₁ H := ⟨rfl, hM, fun b o e => of_hidT e, Nat.le_of_eq (hidT_size _ _), trivial, fun b hb => absurd (show b ∈ ([] : List Addr) from hb) (by simp), hok, .of_eq hg⟩
  refine codeAny_mono ((F _ hKb (nsK hns) TB).run callerA [] s₁ H ⟨[.ref a], []⟩ [.ref a] [.ref a] _ _ hr e0 (hbind s₁ (.ref a)) (.cons rfl .nil) (hsp H H1 hS)) fun r s' h => ?_
  cases r with
  | error e => exact (hCX H e s' h).elim
  | ok fl =>
    cases fl with
    | next => exact False.elim h
    | brk => exact False.elim h
    | cont => exact False.elim h
    | ret u =>
      obtain ⟨v, H', os, bare, un, hok', r', q⟩ := h
      have q' : v = .bl true := q
      subst q'
      obtain rfl : u = Value.bool true := r'
      -- what becomes of each object
      have each : ∀ b o, s₁.heap.get? b = some o → s'.heap.get? b = some o ∨ ∃ p ∈ cs, p.2 = b ∧ ∃ more : Array Value, s'.heap.get? b = some { cls := .none, data := .fields more } := fun b o e => by
        rcases kind b with z | ⟨z1, z2⟩ | ⟨z1, _, z2⟩
        · exact .inl (un.keep b o e z (by intro z; exact absurd (show b ∈ ([] : List Addr) from z) (by simp)) (by simp))
        · obtain ⟨p, hp, ep⟩ := mT z1
          obtain ⟨more, zz⟩ := un.tbls b #[] z2
          exact .inr ⟨p, hp, ep, _, hok' b _ zz⟩
        · have z3 := un.frzs b ob _ z2
          obtain ⟨e1, _⟩ := hok b _ z2
          obtain ⟨e2, _⟩ := hok' b _ z3
          rw [e] at e1; cases e1
          exact .inl e2
      refine ⟨rfl, ⟨fun b o e => ?_, fun b o e => ?_⟩, os, bare⟩
      · rcases each b o e with z | ⟨p, hp, ep, more, z⟩
        · exact .inl z
        · subst ep
          rw [hT p hp] at e
          cases e
          exact .inr (.inl ⟨((C p hp).tab (hT p hp)).isCodeTable, rfl, #[], more, rfl, by rw [Array.empty_append]; exact z⟩)
      · rcases each b o e with z | ⟨_, _, _, more, z⟩
        · exact ⟨o, z⟩
        · exact ⟨_, z⟩
end
theorem tabsB_lt {LN : List (Str × Str)} {K : PySem.W.Frag} (h : tabsB LN K = true) : ∀ x ∈ LN, ∃ c P, PySem.W.tabIn K x.1 = some (c, P) ∧ K.lookup P = none ∧ (P, x.2) ∈ tabsL LN K ∧ ∀ p ∈ tabsL LN K, p.1 = P → p.2 = x.2 := fun x hx => by
  unfold tabsB at h
  rw [Bool.and_eq_true] at h
  obtain ⟨h1, h2⟩ := h
  have q := List.all_eq_true.mp h1 x hx
  split at q
  · rename_i p e
    obtain ⟨c, P⟩ := p
    have m : (P, x.2) ∈ tabsL LN K := List.mem_filterMap.mpr ⟨x, hx, by rw [e]; rfl⟩
    refine ⟨c, P, e, by simpa using q, m, fun p hp ep => ?_⟩
    have := List.all_eq_true.mp (List.all_eq_true.mp h2 p hp) _ m
    simp only [Bool.or_eq_true, Bool.not_eq_true', decide_eq_false_iff_not, decide_eq_true_eq] at this
    rcases this with z | z
    · exact absurd ep z
    · exact z
  · cases q
theorem walk_ofTN {l : PySem.W.OpenLaw} {k : Nat} {q : Program} {loose : List Str} {XP : (Str → Option Value) → Heap → Prop} {YP : World → Heap → Prop} {d : DefRec} {x : Str} {sp : NSp} (LN : List (Str × Str))
    (hn : l.most = some 63) (hdf : d.params.defaults = []) (hr : Room k callerA) (hrec : (LN.all fun x => ((recsOf q).find? fun e => e.name == x.1).isSome) = true)
    (plain : ∀ ns : List Int, ns.length ≤ 63 → sp [.rol (ns.map D.int)] (fun _ => none) (fun d _ => d = .bl true) (fun _ _ _ => False))
    (F : ∀ (w : World) (mg : Str → Option Value) (fa : Addr) (h : Heap), YP w h → h.Ns mainGlobals mg → mg d.name = some (.ref fa) →
      ∃ (K : PySem.W.Frag) (fd : FuncData), K.In h ∧ tabsB LN K = true ∧ (∀ (s : Shared) (u : Value), BindsTo s fd ⟨[u], []⟩ [(x, u)]) ∧
        ∀ base : Heap, K.In base → base.Ns mainGlobals mg → (∀ x ∈ LN, ∃ c P, PySem.W.tabIn K x.1 = some (c, P) ∧ LamX.TabB base mg c P ∧ (P, x.2) ∈ tabsL LN K ∧ ∀ p ∈ tabsL LN K, p.1 = P → p.2 = x.2) →
          FnOk l.prog w K mg base (L2.CX l.prog w) k fa fd [x] (@lSp ⟨tabsL LN K⟩ K 1 sp)) :
    PySem.W.WalkO q loose XP YP l.row.toRowW d [] (fun f vs => PySem.call f vs) := by
  refine Att.attach_call hn hdf fun w s₀ s₁ mg mb fa o pm cd doc a vs ns G Y ho hd hcd hmg hobj hints hlen hg => ?_
  obtain ⟨K, fd, KX, tb, hb, hF⟩ := F w mg fa _ Y G.T.g hmg
  have lt := tabsB_lt tb
  letI : TabList := ⟨tabsL LN K⟩
  have look : ∀ x ∈ LN, ∀ c P, PySem.W.tabIn K x.1 = some (c, P) → PySem.W.CodeHd s₁.heap c P ∧ s₁.heap.get? P = some (PySem.W.tabObj #[]) := fun x hx c P e => by
    have := List.all_eq_true.mp hrec x hx
    obtain ⟨dd, e2⟩ := Option.isSome_iff_exists.mp this
    exact PySem.W.tab_of G.T KX e2 e
  have cm : ∀ p ∈ LN.filterMap fun x => PySem.W.tabIn K x.1, ∃ x ∈ LN, PySem.W.tabIn K x.1 = some p := fun p hp => by
    obtain ⟨x, hx, e⟩ := List.mem_filterMap.mp hp
    exact ⟨x, hx, e⟩
  refine law_callN (cs := LN.filterMap fun x => PySem.W.tabIn K x.1) (sp := lSp K 1 sp) KX G.T.g G.T.b G.T.builtins G.T.nolimit hg (fun p hp => ?_) (fun p hp => ?_) (fun p hp => ?_) G.T.bmain hobj hints (Nat.le_trans hlen (by decide)) hr (fun base b1 b2 b3 => hF base b1 b2 fun x hx => ?_) hb (fun H hH hS => ?_) fun H e s' => cx_none
  · obtain ⟨x, hx, e⟩ := cm p hp
    exact (look x hx p.1 p.2 e).2
  · obtain ⟨x, hx, e⟩ := cm p hp
    obtain ⟨c, P, e2, e3, _⟩ := lt x hx
    rw [e] at e2; cases e2
    exact e3
  · obtain ⟨x, hx, e⟩ := cm p hp
    exact (look x hx p.1 p.2 e).1
  · obtain ⟨c, P, e2, e3, e4⟩ := lt x hx
    exact ⟨c, P, e2, b3 _ (List.mem_filterMap.mpr ⟨x, hx, e2⟩), e4⟩
  · refine ⟨[.rol (ns.map D.int)], fun _ => none, _, _, rfl, .cons (.rol (vs := ns.map V.int) hS VRs.ints) .nil, fun a o e => (by cases e), fun p hp => ?_, plain ns hlen, fun d S' v H' _ _ r e => ?_, fun _ _ _ _ _ _ z => z⟩
    · obtain ⟨x, hx, e⟩ := List.mem_filterMap.mp (show p ∈ tabsL LN K from hp)
      simp only [Option.map_eq_some_iff] at e
      obtain ⟨cp, e1, rfl⟩ := e
      exact LamX.TabS.nil (hH cp (List.mem_filterMap.mpr ⟨x, hx, e1⟩))
    · subst e
      cases r; rfl
end N

set_option Elab.async false
set_option linter.all false
set_option maxRecDepth 100000
set_option maxHeartbeats 4000000
namespace N
open PySem PySem.Spec PyProof.Rows L2
variable [TabList]
/-! ### a refusal that has a line -/
structure OexN (K : PySem.W.Frag) (x f : Str) : Prop where
  oc : OexC K (He.ga K x)
  ini : PySem.W.findIn K (.ref (He.ga K x)) "__init__" = some (some (.ref (He.ma K (He.ga K x) "__init__")))
  tI : PySem.W.typeIn K (.ref (He.ma K (He.ga K x) "__init__")) = some (.type "function")
  no : PySem.W.findIn K (.ref (He.ga K x)) f = some none
def oexC (K : PySem.W.Frag) (C : Addr) : Bool := match K.lookup C with
  | some ⟨.type c, _, .cls cd, sl⟩ => decide (c = "type") && (match cd.mro, sl.toList with
    | .ref C' :: bm, [_, _, _, _, some (.builtin n), _] => decide (C' = C) && (decide (n = "ValueError.__new__") && (!cd.hasDel && (cd.hasDict && PySem.HandSPX.refsVE bm)))
    | _, _ => false)
  | _ => false
def oexW (K : PySem.W.Frag) (x f : Str) : Bool := oexC K (He.ga K x) && (He.eqO (PySem.W.findIn K (.ref (He.ga K x)) "__setattr__") (some (some (.builtin "object.__setattr__"))) && (decide (PySem.W.subIn K (.ref (He.ga K x)) (.type "BaseException") = some true) &&
  (decide (PySem.W.typeIn K (.ref (He.ga K x)) = some (.type "type")) && (PySem.W.keepIn K (.ref (He.ga K x)) && (He.eqO (PySem.W.findIn K (.ref (He.ga K x)) "__init__") (some (some (.ref (He.ma K (He.ga K x) "__init__")))) &&
  (decide (PySem.W.typeIn K (.ref (He.ma K (He.ga K x) "__init__")) = some (.type "function")) && He.eqO (PySem.W.findIn K (.ref (He.ga K x)) f) (some none)))))))
omit [TabList] in
theorem oexW_ok {K : PySem.W.Frag} {x f : Str} (h : oexW K x f = true) : OexN K x f := by
  obtain ⟨h1, h⟩ := He.ba h
  obtain ⟨h2, h⟩ := He.ba h
  obtain ⟨h3, h⟩ := He.ba h
  obtain ⟨h4, h⟩ := He.ba h
  obtain ⟨h5, h⟩ := He.ba h
  obtain ⟨h6, h⟩ := He.ba h
  obtain ⟨h7, h8⟩ := He.ba h
  refine ⟨⟨?_, He.eqO_ok h2, of_decide_eq_true h3, of_decide_eq_true h4, h5⟩, He.eqO_ok h6, of_decide_eq_true h7, He.eqO_ok h8⟩
  unfold oexC at h1
  split at h1
  · rename_i c dd cd sl ho
    simp only [Bool.and_eq_true, decide_eq_true_eq] at h1
    obtain ⟨rfl, h1⟩ := h1
    split at h1
    · rename_i C' bm k0 k1 k2 k3 n k5 hm hs
      simp only [Bool.and_eq_true, decide_eq_true_eq, Bool.not_eq_true'] at h1
      obtain ⟨g2, rfl, g4, g5, g6⟩ := h1
      obtain ⟨nm, bs, mro, ns, qn, hd, sn, sub, ab, col, del⟩ := cd
      dsimp only at hm g4 g5
      subst hm
      subst g4 g5
      have hsl : sl = #[k0, k1, k2, k3, some (.builtin "ValueError.__new__"), k5] := by
        obtain ⟨l⟩ := sl
        simp only at hs
        rw [hs]
      subst hsl
      rw [g2] at ho
      exact ⟨nm, qn, ns, bs, bm, sn, sub, ab, col, dd, k0, k1, k2, k3, k5, ho, g6⟩
    · cases h1
  · cases h1
def spOI (K : PySem.W.Frag) (f : Str) : Sp := fun vs H Q E => ∃ (a C : Addr) (y : V), vs = [.ref a, y] ∧ OexC K C ∧ PySem.W.findIn K (.ref C) f = some none ∧ H a = some (exo a C none) ∧ ∀ dx, H dx = none → dx ≠ a → Q .non (upd (upd H dx (exd dx [(f, y)])) a (exo a C (some dx)))
omit [TabList] in
theorem fn_oinit {P : Program} {w : World} {K : PySem.W.Frag} {mg : Str → Option Value} {base : Heap} {x qual f n0 n1 : Str} {params : Arguments} {body : List Stmt} {scope : Scope} {fI : Addr} {fd : FuncData} {k : Nat} {p1 p2 p3 p4 : Pos}
    (F : FunD K x qual params body scope [] [] fI fd) (S : FnScope [n0, n1] [n0, n1] scope) (hb : body = [.Assign [.Attribute (.Name n0 p1) f p2] (.Name n1 p3) p4])
    (h0 : scope.names.lookup n0 = some .local) (h1 : scope.names.lookup n1 = some .local) (d0 : (n0 == ("__debug__" : Str)) = false) (d1 : (n1 == ("__debug__" : Str)) = false) (c0 : (n0 == ("__classdict__" : Str)) = false) (c1 : (n1 == ("__classdict__" : Str)) = false)
    (hs : ∀ X : Cx, swapsWith (.Name n1 p3) (some (.Attribute (.Name n0 p1) f p2)) p4.line X.env = pure false) : FnOk P w K mg base (L2.CX P w) (k + 1) fI fd [n0, n1] (spOI K f) := by
  subst hb
  refine F.ok S (fun vs H Q E h => by obtain ⟨a, C, y, rfl, _⟩ := h; rfl) (fun cdv A outer s H vs Q E hr h => ?_)
  refine ⟨_, pss_one (ps_ost (pe_var (i := 0) rfl (.inl h0) d0 c0) (pe_var (i := 1) rfl (.inl h1) d1 c1) (hs _)), ?_⟩
  obtain ⟨a, C, y, rfl, T, no, e, q⟩ := h
  exact ⟨y, rfl, .ref a, rfl, a, C, rfl, T, no, .inl ⟨e, fun dx n ne => q dx n ne⟩⟩
def sRaiseX (c f : Str) (m : NE) (w : NW) : NS := fun _ e S => m e S fun y S1 => ∀ d, S1 d = none → w c (some d) e (N.put S1 d (.xd [(f, y)]))
/-! ### the head looks at tables too -/
abbrev AlM : Type := AlN × List (Option (List (Option (Str × Int))))
def obsM (n : Nat) (fa : List He.Fa) (fn : List He.DefD) (ex : PySem.W.Frag → Bool) (ts : List (Str × List Str)) (g : Addr → Option Obj) : AlM := (obsN n fa fn ex g, ts.map fun t => He.dicW (He.frG g (asN g n)) (He.ga (He.frG g (asN g n)) t.1))
def hookM (n : Nat) (fa : List He.Fa) (fn : List He.DefD) (ex : PySem.W.Frag → Bool) (ts : List (Str × List Str)) : PySem.W.Hook where
  α := AlM
  obs := fun s => obsM n fa fn ex ts s.heap.get?
  val := fun w => ((He.valD fn, true), ts.map fun t => some (He.keysIn w.params t.2))
  says := fun w h => ∃ K : PySem.W.Frag, K.In h ∧ He.SaysD fa fn K ∧ ex K = true ∧ (ts.map fun t => He.dicW K (He.ga K t.1)) = ts.map fun t => some (He.keysIn w.params t.2)
  of := fun _ _ e => ⟨_, He.frG_in, congrArg (fun z : AlM => z.1.1) e, congrArg (fun z : AlM => z.1.2) e, (by have z := congrArg (fun z : AlM => z.2) e; exact z)⟩
  keeps := fun _ _ _ ⟨K, hK, c⟩ k => ⟨K, PySem.W.Frag.In.keeps hK k, c⟩
omit [TabList] in
theorem obsM_eq {n : Nat} {fa : List He.Fa} {fn : List He.DefD} {ex : PySem.W.Frag → Bool} {ts : List (Str × List Str)} {g : Addr → Option Obj} {s : Shared} (h : ∀ a, g a = s.heap.get? a) : obsM n fa fn ex ts g = (hookM n fa fn ex ts).obs s := by
  have e : g = s.heap.get? := funext h
  rw [e] <;> rfl
omit [TabList] in
theorem tab_at {α β : Type} {ts : List α} {f g : α → β} (h : ts.map f = ts.map g) (i : Nat) {t : α} (hi : ts[i]? = some t) : f t = g t := by
  have e : (ts.map f)[i]? = (ts.map g)[i]? := by rw [h]
  rw [List.getElem?_map, List.getElem?_map, hi] at e
  exact Option.some.inj e
omit [TabList] in
theorem runEq_ofM {r : PySem.W.OpenRow} {q : Program} {M n : Nat} {loose : List Str} {w : World} {fa : List He.Fa} {fn : List He.DefD} {ex : PySem.W.Frag → Bool} {ts : List (Str × List Str)} {ob : PySem.W.SharedT → AlM} {kq : PySem.W.SharedT → PySem.W.Frag}
    (hob : ∀ s, ob s = obsM n fa fn ex ts (HandSHeadRun.getT s)) (hk : ∀ s, kq s = He.frG (HandSHeadRun.getT s) (asN (HandSHeadRun.getT s) n))
    (hD : ∀ os : OsState, (HandSHeadRun.endF (HandSHeadRun.stepQ (HandSHeadRun.denQ HandSHeadRun.tabQ) r.prog w) M r.prog w os).map (fun s => (HandSHeadRun.looksF r.prog (PySem.W.boot_heap w.params) s.abs, HandSHeadRun.seenQ q loose (importedModules r.prog.main.body) (fun s => PySem.W.xlAt q [] s && PySem.W.recOk r.toRowW.records s) s.abs)) = some (true, PySem.W.openGood q loose))
    (hE : ∀ os : OsState, (HandSHeadRun.endF (HandSHeadRun.stepQ (HandSHeadRun.denQ HandSHeadRun.tabQ) r.prog w) M r.prog w os).map (fun s => ((ex (kq s) && ((fa.all fun f => f.ok (kq s)) && fn.all fun d => d.ok (kq s)), fn.map fun d => He.fnW (kq s) d.at_), ts.map fun t => He.dicW (kq s) (He.ga (kq s) t.1))) = some ((true, fn.map He.DefD.val), ts.map fun t => some (He.keysIn w.params t.2))) :
    HandSHeadRun.RunEq r q (hookM n fa fn ex ts) ob M loose w := by
  intro os
  have d := hD os
  have e := hE os
  cases h : HandSHeadRun.endF (HandSHeadRun.stepQ (HandSHeadRun.denQ HandSHeadRun.tabQ) r.prog w) M r.prog w os with
  | none => rw [h] at d; cases d
  | some s =>
    rw [h] at d e
    simp only [Option.map_some, Option.some.injEq] at d e ⊢
    obtain ⟨e, g⟩ := Prod.mk.inj e
    obtain ⟨e, f⟩ := Prod.mk.inj e
    obtain ⟨e1, e2⟩ := He.ba e
    rw [hk] at e1 e2 f g
    obtain ⟨d1, d2⟩ := Prod.mk.inj d
    rw [d1, d2, hob]
    have e3 : obsM n fa fn ex ts (HandSHeadRun.getT s) = (((true, fn.map He.DefD.val), true), ts.map fun t => some (He.keysIn w.params t.2)) := by
      unfold obsM obsN He.obsD
      rw [e1, e2, f, g]
    rw [e3]
    rfl
section
variable {X : Cx} {H0 : Hp} {w : NW} {a : Expr} {me : NE}
theorem js_raiseX {x f n0 n1 : Str} {p cpos pos : Pos} {k : Nat} (cx : NX X H0 w) (O : OexN X.K x f) (hF : ∃ fd, FnOk X.prog X.w X.K X.mg X.base (L2.CX X.prog X.w) k (He.ma X.K (He.ga X.K x) "__init__") fd [n0, n1] (spOI X.K f) ∧ Binds X.K fd [n0, n1] []) (hr : Room (k + 1) X.A)
    (hm : X.mg x = some (.ref (He.ga X.K x))) (he : JE X H0 a me) (hg : Gl X x := by rfl) (hdb : (x == ("__debug__" : Str)) = false := by decide +kernel)
    (hs : starEach (a :: []) X.env = (false, eval a X.env) :: starEach [] X.env := by rfl) (hpl : (backTo cpos (starEach [] X.env)).any (·.1) = false := by rfl) :
    JS X H0 (.Raise (some (.Call (.Name x p) [a] [] cpos)) none pos) (sRaiseX x f me w) := by
  obtain ⟨fd, F1, hb⟩ := hF
  have hx : Passes (L2.CX X.prog X.w) X (fun _ _ _ => False) := fun pins σ H s e s' I h => by
    obtain ⟨_, _, _, _, _, _, _, _, _, _, _, _, z⟩ := h
    exact z.elim
  refine (ps_raise cx.calm cx.tk (pmk_oex O.oc O.ini O.tI F1 hr hb .nil hx hg hm (ja_cons he ja_nil hs) hdb hs hpl)).imq fun D σ H ⟨e, S, D', A, m, k⟩ => ?_
  refine ⟨e, S, fun ds S1 => ∃ y, ds = [y] ∧ ∀ d, S1 d = none → w x (some d) e (N.put S1 d (.xd [(f, y)])), A, ?_, fun ds S1 vs H1 x1 s1 rs q => ?_⟩
  · have ee : (fun y S1 => mNil e S1 fun ds S2 => ∃ y', y :: ds = [y'] ∧ ∀ d, S2 d = none → w x (some d) e (N.put S2 d (.xd [(f, y')]))) = fun y S1 => ∀ d, S1 d = none → w x (some d) e (N.put S1 d (.xd [(f, y)])) := by
      funext y S1
      exact propext ⟨fun ⟨y', e1, q⟩ => by cases e1; exact q, fun q => ⟨y, rfl, q⟩⟩
    exact (congrArg (me e S) ee).mpr m
  · obtain ⟨y, rfl, q⟩ := q
    obtain ⟨v, rfl, rv⟩ := vrs1 rs
    refine ⟨by simp, fun a0 n0' => ⟨a0, _, v, rfl, O.oc, O.no, upd_same, fun dx n ne => ⟨rfl, dx, [(f, v)], upd_same, by rw [upd_ne ne, upd_same], by rw [upd_ne ne] at n; exact n, ?_⟩⟩⟩
    have nd : H1 dx = none := by rw [upd_ne ne] at n; exact n
    have eh : upd (del (upd (upd (upd H1 a0 (exo a0 (He.ga X.K x) none)) dx (exd dx [(f, v)])) a0 (exo a0 (He.ga X.K x) (some dx))) a0) dx (.xd [(f, v)]) = upd H1 dx (.xd [(f, v)]) := by
      funext b
      by_cases hb' : b = dx
      · rw [hb', upd_same, upd_same]
      · rw [upd_ne hb', upd_ne hb']
        by_cases ha' : b = a0
        · rw [ha', del_same, n0']
        · rw [del_ne ha', upd_ne ha', upd_ne hb', upd_ne ha']
    rw [eh]
    exact ⟨x, e, _, rfl, A.next (x1.trans (.new nd)) (s1.put (o := .xd [(f, y)]) (.new nd) ⟨_, upd_same, .cons ⟨rfl, rv.ext (.new nd)⟩ .nil⟩), q dx (s1.fresh nd)⟩
end
end N

set_option Elab.async false
set_option linter.all false
set_option maxRecDepth 100000
set_option maxHeartbeats 4000000
namespace N
open PySem PySem.Spec PyProof.Rows L2
variable [TabList]
/-! ### a dict is locked while it is walked -/
section
variable {K : PySem.W.Frag}
/-- values stay, whatever is unlocked -/
structure HExtV (H H' : Hp) : Prop where
  tup : ∀ a vs, H a = some (.tup vs) → H' a = some (.tup vs)
  lst : ∀ a o vs, H a = some (.frz o (.lst vs)) → H' a = some (.frz o (.lst vs))
variable {H H' : Hp}
mutual
theorem VR.extV (x : HExtV H H') : ∀ {d : D} {v : V}, VR K H d v → VR K H' d v
  | _, _, .non => .non
  | _, _, .bl b => .bl b
  | _, _, .int i => .int i
  | _, _, .str z => .str z
  | _, _, .ref a => .ref a
  | _, _, .ty n => .ty n
  | _, _, .cls n => .cls n
  | _, _, .tup h r => .tup (h.elim (fun h => .inl (x.tup _ _ h)) .inr) (VRs.extV x r)
  | _, _, .rol h r => .rol (h.elim (fun ⟨o, h⟩ => .inl ⟨o, x.lst _ o _ h⟩) .inr) (VRs.extV x r)
theorem VRs.extV (x : HExtV H H') : ∀ {ds : List D} {vs : List V}, VRs K H ds vs → VRs K H' ds vs
  | _, _, .nil => .nil
  | _, _, .cons h r => .cons (VR.extV x h) (VRs.extV x r)
end
theorem KVR.extV {κ : Type} (x : HExtV H H') {a : List (κ × D)} {b : List (κ × V)} (h : KVR K H a b) : KVR K H' a b := Paired.mapP h fun _ _ z => ⟨z.1, z.2.extV x⟩
theorem ER.extV (x : HExtV H H') {e : Env} {s : L2.St} (h : ER K H e s) : ER K H' e s := Paired.mapP h fun _ _ z d q => let ⟨w, a, b⟩ := z d q; ⟨w, a, b.extV x⟩
theorem OR.extV {a : Addr} {o : Ob} (x : HExtV H H') (k : H' a = H a) (h : OR K H a o) : OR K H' a o := by
  cases o with
  | lst ds => obtain ⟨vs, e, r⟩ := h; exact ⟨vs, k.trans e, r.extV x⟩
  | dic kvs => obtain ⟨vs, e, r⟩ := h; exact ⟨vs, k.trans e, KVR.extV x r⟩
  | ins C fs => obtain ⟨dx, vs, e, r, c⟩ := h; exact ⟨dx, vs, k.trans e, KVR.extV x r, c⟩
  | exc c d => exact k.trans h
  | xd fs => obtain ⟨vs, e, r⟩ := h; exact ⟨vs, k.trans e, KVR.extV x r⟩
  | lok kvs => obtain ⟨o, vs, e, r⟩ := h; exact ⟨o, vs, k.trans e, KVR.extV x r⟩
/-- the unlocking of a dict -/
theorem unlockV {p : Addr} {od : Obj} {ws : List (Key × V)} (h : H p = some (.frz od (.dK ws))) : HExtV H (upd H p (.dK ws)) :=
  ⟨fun a vs e => by rw [upd_ne (fun z => by rw [z, h] at e; cases e)]; exact e, fun a o vs e => by rw [upd_ne (fun z => by rw [z, h] at e; cases e)]; exact e⟩
/-- locked, then unlocked: all stays -/
theorem HExt.locked {H H2 : Hp} {p : Addr} {od : Obj} {ws : List (Key × V)} (h : H p = some (.dK ws)) (x : HExt (L2.upd H p (.frz od (.dK ws))) H2) : HExt H (L2.upd H2 p (.dK ws)) := by
  have ne : ∀ {a : Addr} {u : HO}, H a = some u → (∀ ws, u ≠ .dK ws) → a ≠ p := fun e n z => by
    rw [z, h] at e; cases e; exact n _ rfl
  refine ⟨fun a vs e => ?_, fun a o u e => ?_, fun a q e => ?_, fun t => ?_⟩
  · have n := ne e (by nofun)
    rw [upd_ne n]; exact x.tup a vs (by rw [upd_ne n]; exact e)
  · have n := ne e (by nofun)
    rw [upd_ne n]; exact x.frz a o u (by rw [upd_ne n]; exact e)
  · have n := ne e (fun ws z => by cases z)
    rw [upd_ne n]; exact x.cod a q (by rw [upd_ne n]; exact e)
  · have h2 : H2 p = some (.frz od (.dK ws)) := x.frz p od _ upd_same
    have t2 := x.tab ((HExt.upd (u := .frz od (.dK ws)) h trivial).tab t)
    intro q hq
    obtain ⟨ps, e1, e2, e3⟩ := t2 q hq
    refine ⟨ps, by rw [upd_ne (fun z => by rw [z, h2] at e1; cases e1)]; exact e1, e2, fun pos cv hc => ?_⟩
    obtain ⟨c, f1, f2⟩ := e3 pos cv hc
    exact ⟨c, f1, by rw [upd_ne (fun z => by rw [z, h2] at f2; cases f2)]; exact f2⟩
theorem SR.unlock {S : Sto} {H2 : Hp} {p : Addr} {od : Obj} {ws : List (Key × V)} {kvs : List (Key × D)} (s : SR K S H2) (h : H2 p = some (.frz od (.dK ws))) (r : KVR K H2 kvs ws) : SR K (N.put S p (.dic kvs)) (upd H2 p (.dK ws)) := fun b q e => by
  have x := unlockV h
  by_cases hb : b = p
  · subst hb
    rw [put_same] at e
    cases e
    exact ⟨ws, upd_same, KVR.extV x r⟩
  · rw [put_ne hb] at e
    exact (s b q e).extV x (upd_ne hb)
end
/-- the expression is told while the dict at p is locked -/
def mLock (m : NE) : NE := fun e S Q => ∃ p kvs, S p = some (.dic kvs) ∧ m e (N.put S p (.lok kvs)) fun d S' => Q d (N.put S' p (.dic kvs))
def sLock (t : NS) : NS := fun D e S => ∃ p kvs, S p = some (.dic kvs) ∧ t { nx := fun e' S' => D.nx e' (N.put S' p (.dic kvs)), rt := fun d S' => D.rt d (N.put S' p (.dic kvs)), bk := fun e' S' => D.bk e' (N.put S' p (.dic kvs)), ct := fun e' S' => D.ct e' (N.put S' p (.dic kvs)) } e (N.put S p (.lok kvs))
section
variable {X : Cx} {H0 : Hp} {w : NW} {a : Expr} {m : NE} {st : Stmt} {t : NS}
theorem at_lock {H : Hp} {σ : L2.St} {e : Env} {S : Sto} {p : Addr} {kvs : List (Key × D)} {ws : List (Key × V)} (A : At X.K H0 H σ e S) (h : H p = some (.dK ws)) (r : KVR X.K H kvs ws) (od : Obj) : At X.K H0 (upd H p (.frz od (.dK ws))) σ e (N.put S p (.lok kvs)) := by
  have x : HExt H (upd H p (.frz od (.dK ws))) := .upd h trivial
  exact ⟨A.x.trans x, A.e.ext x, A.s.put x ⟨od, ws, upd_same, KVR.ext x r⟩⟩
theorem je_lock (h : JE X H0 a m) : JE X H0 a (mLock m) := by
  refine (pe_lock h).imq fun σ H Q ⟨e, S, Q', A, ⟨p, kvs, hp, q⟩, k⟩ => ?_
  obtain ⟨ws, h1, r1⟩ := A.s.dic hp
  refine ⟨p, _, h1, trivial, fun od => ⟨e, _, _, at_lock A h1 r1 od, q, fun d S' v H2 x s2 rv q2 => ?_⟩⟩
  have h2 : H2 p = some (.frz od (.dK ws)) := x.frz p od _ upd_same
  have r2 : KVR X.K H2 kvs ws := KVR.ext x (KVR.ext (.upd h1 trivial) r1)
  exact ⟨h2, k _ _ _ _ (HExt.locked h1 x) (s2.unlock h2 r2) (rv.extV (unlockV h2)) q2⟩
theorem js_lock (h : JS X H0 st t) : JS X H0 st (sLock t) := by
  refine (ps_lock h).imq fun D σ H ⟨e, S, D', A, ⟨p, kvs, hp, q⟩, k⟩ => ?_
  obtain ⟨ws, h1, r1⟩ := A.s.dic hp
  refine ⟨p, _, h1, trivial, fun od => ⟨e, _, _, at_lock A h1 r1 od, q, ?_⟩⟩
  have hh : ∀ {H2 : Hp}, HExt (upd H p (.frz od (.dK ws))) H2 → H2 p = some (.frz od (.dK ws)) ∧ KVR X.K H2 kvs ws := fun x => ⟨x.frz p od _ upd_same, KVR.ext x (KVR.ext (.upd h1 trivial) r1)⟩
  have aa : ∀ {H2 : Hp} {σ2 : L2.St} {e2 : Env} {S2 : Sto}, HExt (upd H p (.frz od (.dK ws))) H2 → At X.K H0 H2 σ2 e2 S2 → At X.K H0 (upd H2 p (.dK ws)) σ2 e2 (N.put S2 p (.dic kvs)) := fun x A2 =>
    ⟨A.x.trans (HExt.locked h1 x), A2.e.extV (unlockV (hh x).1), A2.s.unlock (hh x).1 (hh x).2⟩
  exact ⟨fun e2 S2 σ2 H2 x A2 q2 => ⟨(hh x).1, k.nx _ _ _ _ (HExt.locked h1 x) (aa x A2) q2⟩, fun d S2 v H2 x s2 rv q2 => ⟨(hh x).1, k.rt _ _ _ _ (HExt.locked h1 x) (s2.unlock (hh x).1 (hh x).2) (rv.extV (unlockV (hh x).1)) q2⟩,
    fun e2 S2 σ2 H2 x A2 q2 => ⟨(hh x).1, k.bk _ _ _ _ (HExt.locked h1 x) (aa x A2) q2⟩, fun e2 S2 σ2 H2 x A2 q2 => ⟨(hh x).1, k.ct _ _ _ _ (HExt.locked h1 x) (aa x A2) q2⟩⟩
end
/-! ### what a locked dict tells, walked -/
def kD : Key → D
  | .inl i => .int i
  | .inr x => .str x
theorem kD_ok {K : PySem.W.Frag} {H : Hp} (k : Key) : VR K H (kD k) (kV k) := by
  cases k with
  | inl i => exact .int i
  | inr x => exact .str x
theorem kvr_get {K : PySem.W.Frag} {H : Hp} : ∀ {kvs : List (Key × D)} {ws : List (Key × V)}, KVR K H kvs ws → ∀ {i : Nat} {k : Key} {v : V}, ws[i]? = some (k, v) → ∃ d, kvs[i]? = some (k, d) ∧ VR K H d v
  | _, _, .nil, i, k, v, e => by simp at e
  | p :: r, q :: t, .cons h l, 0, k, v, e => by
    obtain ⟨pk, pd⟩ := p
    simp only [List.getElem?_cons_zero, Option.some.injEq] at e
    subst e
    obtain ⟨h1, h2⟩ := h
    dsimp only at h1 h2
    subst h1
    exact ⟨pd, rfl, h2⟩
  | p :: r, q :: t, .cons h l, i + 1, k, v, e => by
    simp only [List.getElem?_cons_succ] at e ⊢
    exact kvr_get l e
theorem kvr_len {K : PySem.W.Frag} {H : Hp} {kvs : List (Key × D)} {ws : List (Key × V)} (h : KVR K H kvs ws) : kvs.length = ws.length := Paired.length h
def lokOf (S : Sto) : D → Option (List (Key × D))
  | .ref p => (match S p with
    | some (.lok kvs) => some kvs
    | _ => none)
  | _ => none
theorem lokOf_ok {K : PySem.W.Frag} {S : Sto} {H : Hp} {d : D} {v : V} {kvs : List (Key × D)} (s : SR K S H) (r : VR K H d v) (e : lokOf S d = some kvs) : ∃ a o ws, d = .ref a ∧ v = .ref a ∧ H a = some (.frz o (.dK ws)) ∧ KVR K H kvs ws := by
  unfold lokOf at e
  split at e
  · rename_i a
    cases r
    split at e
    · rename_i es e1
      cases e
      obtain ⟨o, ws, h1, r1⟩ := s a _ e1
      exact ⟨a, o, ws, rfl, rfl, h1, r1⟩
    · cases e
  · cases e
def iKeysN (m : NE) : NI := fun e S Q => m e S fun x S1 => match lokOf S1 x with
  | some kvs => Q (kvs.map fun kv => kD kv.1) (fun _ => True) S1
  | none => False
def iValsN (m : NE) : NI := fun e S Q => m e S fun x S1 => match lokOf S1 x with
  | some kvs => Q (kvs.map fun kv => kv.2) (fun _ => True) S1
  | none => False
def iItemsN (m : NE) : NI := fun e S Q => m e S fun x S1 => match lokOf S1 x with
  | some kvs => Q (kvs.map fun kv => .tup [kD kv.1, kv.2]) (fun _ => True) S1
  | none => False
section
variable {X : Cx} {H0 : Hp} {a : Expr} {ma : NE} {tg : Expr} {apos cpos : Pos}
theorem itr_keys {K : PySem.W.Frag} {H1 : Hp} {p : Addr} {o : Obj} {ws : List (Key × V)} {kvs : List (Key × D)} (h : H1 p = some (.frz o (.dK ws))) (r : KVR K H1 kvs ws) : ItR K H1 (Itk p o ws) (kvs.map fun kv => kD kv.1) fun _ => True := by
  have l := kvr_len r
  refine ⟨fun H2 S2 x s _ => ⟨x.frz p o _ h, by simp [l]⟩, fun i H2 S2 hi x s _ => ⟨x.frz p o _ h, by simpa [l] using hi⟩, fun i H2 S2 y H3 d hd x s _ yl => ?_⟩
  obtain ⟨rfl, k, v, hw, rfl⟩ := yl
  obtain ⟨d', e1, _⟩ := kvr_get r hw
  rw [List.getElem?_map, e1] at hd
  cases hd
  exact ⟨.refl _, s, kD_ok k⟩
theorem itr_vals {K : PySem.W.Frag} {H1 : Hp} {p : Addr} {o : Obj} {ws : List (Key × V)} {kvs : List (Key × D)} (h : H1 p = some (.frz o (.dK ws))) (r : KVR K H1 kvs ws) : ItR K H1 (Itd p o ws) (kvs.map fun kv => kv.2) fun _ => True := by
  have l := kvr_len r
  refine ⟨fun H2 S2 x s _ => ⟨x.frz p o _ h, by simp [l]⟩, fun i H2 S2 hi x s _ => ⟨x.frz p o _ h, by simpa [l] using hi⟩, fun i H2 S2 y H3 d hd x s _ yl => ?_⟩
  obtain ⟨rfl, k, hw⟩ := yl
  obtain ⟨d', e1, rv⟩ := kvr_get r hw
  rw [List.getElem?_map, e1] at hd
  cases hd
  exact ⟨.refl _, s, rv.ext x⟩
theorem itr_items {K : PySem.W.Frag} {H1 : Hp} {p : Addr} {o : Obj} {ws : List (Key × V)} {kvs : List (Key × D)} (h : H1 p = some (.frz o (.dK ws))) (r : KVR K H1 kvs ws) : ItR K H1 (Iti p o ws) (kvs.map fun kv => .tup [kD kv.1, kv.2]) fun _ => True := by
  have l := kvr_len r
  refine ⟨fun H2 S2 x s _ => ⟨x.frz p o _ h, by simp [l]⟩, fun i H2 S2 hi x s _ => ⟨x.frz p o _ h, by simpa [l] using hi⟩, fun i H2 S2 y H3 d hd x s _ yl => ?_⟩
  obtain ⟨T, k, v, hw, rfl, nT, rfl⟩ := yl
  obtain ⟨d', e1, rv⟩ := kvr_get r hw
  rw [List.getElem?_map, e1] at hd
  cases hd
  exact ⟨.new nT, s.more nT, .tup (.inl upd_same) (.cons (kD_ok k) (.cons ((rv.ext x).ext (.new nT)) .nil))⟩
theorem ji_keys (ha : JE X H0 a ma) : JI X H0 tg a (iKeysN ma) := by
  refine (pi_keys (tg := tg) ha).imq fun σ H R ⟨e, S, Q', A, m, k⟩ => ?_
  refine ⟨e, S, _, A, m, fun x S1 v H1 x1 s1 r m1 => ?_⟩
  split at m1
  · rename_i kvs e1
    obtain ⟨p, o, ws, rfl, rfl, h1, r1⟩ := lokOf_ok s1 r e1
    exact ⟨p, o, rfl, .inl ⟨ws, h1, k _ _ _ _ _ x1 s1 trivial m1 (itr_keys h1 r1)⟩⟩
  · exact m1.elim
theorem ji_values (ha : JE X H0 a ma) (hbase : attributeBase a "values" X.env (eval a X.env) = eval a X.env := by rfl) (hline : (apos.endLine == cpos.line) = true := by rfl) : JI X H0 tg (.Call (.Attribute a "values" apos) [] [] cpos) (iValsN ma) := by
  refine (pi_values (tg := tg) ha hbase hline).imq fun σ H R ⟨e, S, Q', A, m, k⟩ => ?_
  refine ⟨e, S, _, A, m, fun x S1 v H1 x1 s1 r m1 => ?_⟩
  split at m1
  · rename_i kvs e1
    obtain ⟨p, o, ws, rfl, rfl, h1, r1⟩ := lokOf_ok s1 r e1
    exact ⟨p, o, ws, rfl, h1, k _ _ _ _ _ x1 s1 trivial m1 (itr_vals h1 r1)⟩
  · exact m1.elim
theorem ji_items {elts : List Expr} {kk : Nat} {tpos : Pos} (ha : JE X H0 a ma) (hbase : attributeBase a "items" X.env (eval a X.env) = eval a X.env := by rfl) (hline : (apos.endLine == cpos.line) = true := by rfl) : JI X H0 (.Tuple elts kk tpos) (.Call (.Attribute a "items" apos) [] [] cpos) (iItemsN ma) := by
  refine (pi_items ha hbase hline).imq fun σ H R ⟨e, S, Q', A, m, k⟩ => ?_
  refine ⟨e, S, _, A, m, fun x S1 v H1 x1 s1 r m1 => ?_⟩
  split at m1
  · rename_i kvs e1
    obtain ⟨p, o, ws, rfl, rfl, h1, r1⟩ := lokOf_ok s1 r e1
    exact ⟨p, o, ws, rfl, h1, k _ _ _ _ _ x1 s1 trivial m1 (itr_items h1 r1)⟩
  · exact m1.elim
end
/-! ### list of a dict: its keys -/
def nListD : NL := fun xs S Q => match xs with
  | [d] => (match dicOf S d with
    | some kvs => ∀ p, S p = none → Q (.ref p) (N.put S p (.lst (kvs.map fun kv => kD kv.1)))
    | none => nList1 [d] S Q)
  | _ => False
theorem kD_vrs {K : PySem.W.Frag} {H : Hp} : ∀ {kvs : List (Key × D)} {ws : List (Key × V)}, KVR K H kvs ws → VRs K H (kvs.map fun kv => kD kv.1) (ws.map fun kv => kV kv.1)
  | _, _, .nil => .nil
  | p :: r, q :: t, .cons h l => by
    refine .cons ?_ (kD_vrs l)
    show VR K H (kD p.1) (kV q.1)
    rw [h.1]
    exact kD_ok _
theorem callN_listD {X : Cx} (hc : X.calm = true) : CallN X (.type "list") nListD := by
  obtain ⟨rl, h1, h2⟩ := callN_list (X := X)
  refine ⟨_, (call_listD hc).or h1, fun xs S Q vs H Q' s r n k => ?_⟩
  unfold nListD at n
  split at n
  · rename_i d
    split at n
    · rename_i kvs e1
      obtain ⟨v, rfl, rd⟩ := vrs1 r
      obtain ⟨a, ws, rfl, rfl, hr, rk⟩ := dicOf_ok s rd e1
      exact .inl ⟨a, ws, rfl, hr, fun p np => k _ _ _ _ (.new np) (lst_ok s np (kD_vrs rk)) (.ref p) (n p (s.fresh np))⟩
    · exact .inr (h2 _ _ _ _ _ _ s r n k)
  · exact n.elim
/-! ### dicts are compared -/
section
variable {X : Cx}
omit [TabList] in
theorem hits_data {pins : List (Addr × Obj)} {σ : L2.St} {H : Hp} {s : Shared} {A : Around} (I : Inv X pins σ H s) (hu : A.units + 64 < cLine) {ls : List (Key × V)} {vb : List (Key × Value)} (rb : KV ls vb) {ks : List (Key × V)} {va : List (Key × Value)} (ra : KV ks va) :
    (∀ p ∈ ks, ∃ u d e, valV ls p.1 = some u ∧ Dp X.K H p.2 d ∧ Dp X.K H u e ∧ SeqAt.shaped d = true ∧ SeqAt.shaped e = true ∧ d.depth ≤ 60 ∧ PyData.eqv d e = true) → PySem.W.KeqHits A.in1 s vb va true := by
  unfold KV at ra
  induction ra with
  | nil => intro _; exact .nil
  | @cons p q ps qs h t ih =>
    intro hp
    obtain ⟨h1, h2⟩ := h
    obtain ⟨u, d, e, eu, hd, he, sd, se, dd, ee⟩ := hp p List.mem_cons_self
    have rr : RelO (some u) (valueAt vb p.1) := by rw [← eu]; exact rb.val p.1
    obtain ⟨y, hy, ry⟩ := rr.some_of
    obtain ⟨k, v⟩ := q
    have h1' : p.1 = k := h1
    rw [h1'] at hy
    obtain ⟨as, r1⟩ := Dp.reads I d _ v hd h2
    obtain ⟨bs, r2⟩ := Dp.reads I e _ y he ry
    have z := SeqAt.eqAt_reads d e A.in1 s v y as bs r1 r2 (SeqAt.canLay_of_shaped sd) (SeqAt.canLay_of_shaped se) (by
      have : min d.depth e.depth ≤ d.depth := Nat.min_le_left _ _
      show A.units + 1 + min d.depth e.depth < cLine
      omega)
    rw [ee] at z
    show PySem.W.KeqHits A.in1 s vb ((k, v) :: qs) (true && true)
    exact .hit hy z (ih fun p' hm => hp p' (List.mem_cons_of_mem _ hm))
def rDic : V → V → Hp → Bool → PySem.W.Frag → Prop := fun x y H r K => ∃ a b ks ls, x = .ref a ∧ y = .ref b ∧ H a = some (.dK ks) ∧ H b = some (.dK ls) ∧ r = (ks.length == ls.length) ∧ (ks.length = ls.length → ∀ p ∈ ks, ∃ u d e, valV ls p.1 = some u ∧ Dp K H p.2 d ∧ Dp K H u e ∧ SeqAt.shaped d = true ∧ SeqAt.shaped e = true ∧ d.depth ≤ 60 ∧ PyData.eqv d e = true)
omit [TabList] in
theorem op_eqDic (hu : X.A.units + 64 < cLine) : OpR X (compareOp .Eq) (fun x y H Q => ∃ r, rDic x y H r X.K ∧ Q (.bl r) H) := by
  intro pins s σ H x y v u Q I rx ry h
  obtain ⟨r, ⟨a, b, ks, ls, rfl, rfl, ea, eb, er, hp⟩, q⟩ := h
  obtain rfl : v = Value.ref a := rx
  obtain rfl : u = Value.ref b := ry
  obtain ⟨_, ya, va, ra, da⟩ := (show ObjOk X.prog X.w H s.heap a (.dK ks) from I.hok a _ ea)
  obtain ⟨_, yb, vb, rb, db⟩ := (show ObjOk X.prog X.w H s.heap b (.dK ls) from I.hok b _ eb)
  have la := ra.length
  have lb := rb.length
  exact PySem.W.keq_eq (knd := mixKind X.prog X.w) (r := true) ya yb da db (by omega) (fun e => hits_data I hu rb ra (hp (by rw [la, lb]; exact e))) (fin_bl I q (by rw [er, la, lb]; simp))
omit [TabList] in
theorem op_neDic (hu : X.A.units + 64 < cLine) : OpR X (compareOp .NotEq) (fun x y H Q => ∃ r, rDic x y H r X.K ∧ Q (.bl (!r)) H) := by
  intro pins s σ H x y v u Q I rx ry h
  obtain ⟨r, ⟨a, b, ks, ls, rfl, rfl, ea, eb, er, hp⟩, q⟩ := h
  obtain rfl : v = Value.ref a := rx
  obtain rfl : u = Value.ref b := ry
  obtain ⟨_, ya, va, ra, da⟩ := (show ObjOk X.prog X.w H s.heap a (.dK ks) from I.hok a _ ea)
  obtain ⟨_, yb, vb, rb, db⟩ := (show ObjOk X.prog X.w H s.heap b (.dK ls) from I.hok b _ eb)
  have la := ra.length
  have lb := rb.length
  exact PySem.W.keq_ne (knd := mixKind X.prog X.w) (r := true) ya yb da db (by omega) (fun e => hits_data I hu rb ra (hp (by rw [la, lb]; exact e))) (fin_bl I q (by rw [er, la, lb]; simp))
end
def dic1 (S : Sto) : D → Option (List (Key × D))
  | .ref p => (match S p with
    | some (.dic kvs) => some kvs
    | _ => none)
  | _ => none
theorem dic1_ok {K : PySem.W.Frag} {S : Sto} {H : Hp} {d : D} {v : V} {kvs : List (Key × D)} (s : SR K S H) (r : VR K H d v) (e : dic1 S d = some kvs) : ∃ a ws, v = .ref a ∧ H a = some (.dK ws) ∧ KVR K H kvs ws := by
  unfold dic1 at e
  split at e
  · cases r
    split at e
    · rename_i es e1
      cases e
      obtain ⟨ws, h1, r1⟩ := s.dic e1
      exact ⟨_, ws, rfl, h1, r1⟩
    · cases e
  · cases e
/-- equal data -/
def eqS (x y : D) : Bool := match pyD x, pyD y with
  | some a, some b => SeqAt.shaped a && (SeqAt.shaped b && (decide (a.depth ≤ 60) && PyData.eqv a b))
  | _, _ => false
def eqDic (ks ls : List (Key × D)) : Option Bool := if ks.length = ls.length then (if ks.all (fun p => match dget ls p.1 with
  | some d => eqS p.2 d
  | none => false) then some true else none) else some false
theorem eqDic_ok {K : PySem.W.Frag} {S : Sto} {H : Hp} {x y : D} {v u : V} {ks ls : List (Key × D)} {r : Bool} (s : SR K S H) (rx : VR K H x v) (ry : VR K H y u) (ex : dic1 S x = some ks) (ey : dic1 S y = some ls) (e : eqDic ks ls = some r) : rDic v u H r K := by
  obtain ⟨a, ws, rfl, h1, r1⟩ := dic1_ok s rx ex
  obtain ⟨b, zs, rfl, h2, r2⟩ := dic1_ok s ry ey
  have l1 := kvr_len r1
  have l2 := kvr_len r2
  unfold eqDic at e
  split at e
  · rename_i el
    split at e
    · rename_i al
      cases e
      refine ⟨a, b, ws, zs, rfl, rfl, h1, h2, by simp [← l1, ← l2, el], fun _ p hp => ?_⟩
      obtain ⟨i, hi, ep⟩ := List.getElem_of_mem hp
      obtain ⟨k, vv⟩ := p
      obtain ⟨d, e1, rd⟩ := kvr_get r1 (i := i) (k := k) (v := vv) (by rw [List.getElem?_eq_getElem hi, ep])
      have q := List.all_eq_true.mp al _ (List.mem_of_getElem? e1)
      dsimp only at q
      split at q
      · rename_i d' ed
        obtain ⟨u', e3, ru⟩ := (KVR.val k r2).1 d' ed
        unfold eqS at q
        split at q
        · rename_i pa pb ea eb
          obtain ⟨g1, q⟩ := He.ba q
          obtain ⟨g2, q⟩ := He.ba q
          obtain ⟨g3, g4⟩ := He.ba q
          exact ⟨u', pa, pb, e3, pyD_ok rd ea, pyD_ok ru eb, g1, g2, of_decide_eq_true g3, g4⟩
        · cases q
      · cases q
    · cases e
  · rename_i el
    cases e
    exact ⟨a, b, ws, zs, rfl, rfl, h1, h2, by simp [← l1, ← l2, el], fun z => absurd z (by rw [← l1, ← l2]; exact el)⟩
def nEqX : N2 := fun x y S Q => match dic1 S x, dic1 S y with
  | some ks, some ls => (match eqDic ks ls with
    | some b => Q (.bl b) S
    | none => False)
  | _, _ => nEq x y S Q
def nNeX : N2 := fun x y S Q => match dic1 S x, dic1 S y with
  | some ks, some ls => (match eqDic ks ls with
    | some b => Q (.bl (!b)) S
    | none => False)
  | _, _ => nNe x y S Q
section
variable {X : Cx}
theorem opN_eqX (hu : X.A.units + 64 < cLine) : OpN X (compareOp .Eq) nEqX := by
  obtain ⟨t, h1, h2⟩ := opN_eq (X := X) hu
  refine ⟨_, (op_eqDic hu).or h1, fun x y S Q vx vy H Q' s rx ry n k => ?_⟩
  unfold nEqX at n
  split at n
  · rename_i ks ls ex ey
    split at n
    · rename_i b eb
      exact .inl ⟨b, eqDic_ok s rx ry ex ey eb, k _ _ _ _ (.refl H) s (.bl _) n⟩
    · exact n.elim
  · exact .inr (h2 _ _ _ _ _ _ _ _ s rx ry n k)
theorem opN_neX (hu : X.A.units + 64 < cLine) : OpN X (compareOp .NotEq) nNeX := by
  obtain ⟨t, h1, h2⟩ := opN_ne (X := X) hu
  refine ⟨_, (op_neDic hu).or h1, fun x y S Q vx vy H Q' s rx ry n k => ?_⟩
  unfold nNeX at n
  split at n
  · rename_i ks ls ex ey
    split at n
    · rename_i b eb
      exact .inl ⟨b, eqDic_ok s rx ry ex ey eb, k _ _ _ _ (.refl H) s (.bl _) n⟩
    · exact n.elim
  · exact .inr (h2 _ _ _ _ _ _ _ _ s rx ry n k)
end
/-! ### xs.extend(ys) -/
def nExtend : D → List D → Sto → NQ → Prop := fun x ys S Q => match x, ys with
  | .ref p, [.ref b] => (match S p, S b with
    | some (.lst ds), some (.lst es) => ds.length + es.length ≤ sizeLine ∧ Q .non (N.put S p (.lst (ds ++ es)))
    | _, _ => False)
  | _, _ => False
theorem opM_extend {K : PySem.W.Frag} : OpM K rExtend nExtend := fun x ys S Q vx vs H Q' s rx rs n k => by
  unfold nExtend at n
  split at n
  · rename_i p b
    cases rx
    obtain ⟨v, rfl, rv⟩ := vrs1 rs
    cases rv
    split at n
    · rename_i ds es e1 e2
      obtain ⟨ws, g1, r1⟩ := s.lst e1
      obtain ⟨zs, g2, r2⟩ := s.lst e2
      have x : HExt H (upd H p (.lst (ws ++ zs))) := .upd g1 True.intro
      exact ⟨p, b, ws, zs, rfl, rfl, g1, g2, by rw [← r1.length, ← r2.length]; exact n.1, k _ _ _ _ x (s.put (o := .lst (ds ++ es)) x ⟨_, upd_same, (r1.append r2).ext x⟩) .non n.2⟩
    · exact n.elim
  · exact n.elim
section
variable {X : Cx} {H0 : Hp} {w : NW} {a o : Expr} {mo : NE} {mr : NA} {es : List Expr} {pos : Pos}
theorem je_extend {apos : Pos} (ho : JE X H0 o mo) (ha : JA X H0 (a :: es) mr)
    (hbase : attributeBase o "extend" X.env (eval o X.env) = eval o X.env := by rfl)
    (hfew : ((backTo pos (starEach (a :: es) X.env)).all (fun x => !x.1) && (backToKw pos (keywordEach [] X.env)).all (fun x => x.1.isSome)
      && decide ((a :: es).length + ([] : List Keyword).length + (if ([] : List Keyword).isEmpty then 0 else 1) < 30)) = true := by rfl)
    (hline : (apos.endLine == pos.line) = true := by rfl) (hs : starEach (a :: es) X.env = (false, eval a X.env) :: starEach es X.env := by rfl) (hplain : (backTo pos (starEach es X.env)).any (·.1) = false := by rfl) :
    JE X H0 (.Call (.Attribute o "extend" apos) (a :: es) [] pos) (mLm nExtend mo mr) :=
  je_lm PySem.F.slot_list_extend PySem.F.type_list_extend (r := rExtend) (fun pins s σ H x xs v us Q I rx rs h => mt_extend pins s σ H x xs v us Q I rx rs h) opM_extend ho ha hbase hfew hline hs hplain
end
/-! ### list(d.values()) -/
section
variable {X : Cx} {H0 : Hp} {e : Expr} {te : TE} {me : NE} {p apos cpos pos : Pos}
def rValsL : V → Hp → VK → Prop := fun x H Q => ∃ (d : Addr) (kvs : List (Key × V)), x = .ref d ∧ Rd H d (.dK kvs) ∧ ∀ q, H q = none → Q (.ref q) (upd H q (.lst (kvs.map fun kv => kv.2)))
omit [TabList] in
theorem vals_at {kvs : List (Key × V)} {vs : List (Key × Value)} (rel : KV kvs vs) {acc : List Value} (hl : acc.length = kvs.length) (h : ∀ (j : Nat) (v : Value), acc[j]? = some v → ∃ k : Key, vs[j]? = some (k, v)) : Vals (kvs.map fun kv => kv.2) acc := by
  have e : acc = vs.map fun q => q.2 := by
    apply List.ext_getElem?
    intro j
    rw [List.getElem?_map]
    cases q : acc[j]? with
    | none =>
      have : vs.length ≤ j := by rw [← rel.length, ← hl]; exact List.getElem?_eq_none_iff.mp q
      rw [List.getElem?_eq_none this]; rfl
    | some v =>
      obtain ⟨k, ek⟩ := h j v q
      rw [ek]; rfl
  rw [e]
  clear e h hl
  unfold KV at rel
  induction rel with
  | nil => exact .nil
  | cons h _ ih => exact .cons h.2 ih
omit [TabList] in
theorem pe_listVals (hc : X.calm = true) (he : PE X e te) (hg : Gl X "list") (hm : X.mg "list" = none) (hv : bootBuiltins "list" = some (.type "list")) (hbase : attributeBase e "values" X.env (eval e X.env) = eval e X.env := by rfl) (hline : (apos.endLine == cpos.line) = true := by rfl)
    (hs : starEach [.Call (.Attribute e "values" apos) [] [] cpos] X.env = (false, eval (.Call (.Attribute e "values" apos) [] [] cpos) X.env) :: starEach [] X.env := by rfl) :
    PE X (.Call (.Name "list" p) [.Call (.Attribute e "values" apos) [] [] cpos] [] pos) (fun σ H Q => te σ H fun x H1 => rValsL x H1 Q) := by
  refine ⟨fun pins s σ H Q I hq => ?_⟩
  refine wpAny_Call_Name_kw (ld_blt I hg hm hv ?_)
  refine PyProof.Rows.callWith_type1 ?_ hs rfl
  rw [hs]
  show wpAny _ _ (spliced ((false, eval (.Call (.Attribute e "values" apos) [] [] cpos) X.env) :: backTo pos (starEach [] X.env))) _ _ s
  refine Calls.spliced_cons ?_
  refine wpAny_Call_method (T := "dict") (id := "dict.values") hbase rfl hline PySem.F.plainAttrs_dict PySem.F.slot_dict_values PySem.F.type_dict_values (thn (he.run pins s σ H _ I hq) fun u s1 ⟨x, H1, I1, rx, d, kvs, ex, hd, q⟩ => ?_)
  subst ex
  obtain rfl : u = Value.ref d := rx
  obtain ⟨hz, hs0, vs, kv, hdo⟩ := dk_rd I1.hok hd
  obtain ⟨ep, hat⟩ := hdo.dictAt
  have lk : kvs.length = vs.length := Paired.length kv
  have I2 : Inv X pins σ H1 { s1 with heap := s1.heap.push { cls := .type "dict_values", data := .fields #[.ref d] } } := I1.kept (t' := s1.toks) fun b ob q => Heap.get?_push_of_some _ q
  refine ⟨hdo.typeIs, hdo.mapOf.noDict, ?_⟩
  show wpAny _ _ (callWith cpos (.builtin "dict.values") [.ref d] [] []) _ X.xe s1
  refine method_meetsIn PySem.F.slot_dict_values PySem.F.entry_dict_values rfl (PySem.evalArgs_none ⟨rfl, hdo.typeIs, PySem.F.args_dict_values_1 _, _, meets_dict_values (mixKind X.prog X.w) d hs0, ⟨vs, hdo⟩, ?_⟩)
  refine Calls.spliced_nil ?_
  refine PySem.W.kdl_call (PySem.W.kdl_values (knd := mixKind X.prog X.w) (kvs := vs) (ep := ep)) (I1.ok.hd hc) ⟨⟨_, Heap.get?_push_size _ rfl, rfl, rfl⟩, hat.push _⟩ (by omega) fun h' tk acc c' hk hD hacc => ?_
  have rv : Vals (kvs.map fun kv => kv.2) acc.toList := vals_at kv (by rw [Array.length_toList, lk]; exact hacc.1) fun j v e => hacc.2 j v (by rw [← Array.getElem?_toList]; exact e)
  exact ⟨.ref _, upd H1 _ (.lst (kvs.map fun kv => kv.2)), I2.laid (t' := tk) hk (Nat.le_refl _)
    (show ObjOk X.prog X.w _ _ _ (.lst (kvs.map fun kv => kv.2)) from ⟨by rw [List.length_map]; exact hz, acc.toList, c', rv, by rw [Array.toArray_toList]; exact hD⟩), rfl, q _ (I2.hok.fresh (Nat.le_refl _))⟩
def mListVals (me : NE) : NE := fun e S Q => me e S fun x S1 => match dicOf S1 x with
  | some kvs => ∀ p, S1 p = none → Q (.ref p) (N.put S1 p (.lst (kvs.map fun kv => kv.2)))
  | none => False
theorem kvr_vals {K : PySem.W.Frag} {H : Hp} : ∀ {kvs : List (Key × D)} {ws : List (Key × V)}, KVR K H kvs ws → VRs K H (kvs.map fun kv => kv.2) (ws.map fun kv => kv.2)
  | _, _, .nil => .nil
  | _, _, .cons h l => .cons h.2 (kvr_vals l)
theorem je_listVals (hc : X.calm = true) (hm : X.mg "list" = none) (he : JE X H0 e me) (hg : Gl X "list" := by rfl) (hbase : attributeBase e "values" X.env (eval e X.env) = eval e X.env := by rfl) (hline : (apos.endLine == cpos.line) = true := by rfl)
    (hs : starEach [.Call (.Attribute e "values" apos) [] [] cpos] X.env = (false, eval (.Call (.Attribute e "values" apos) [] [] cpos) X.env) :: starEach [] X.env := by rfl) :
    JE X H0 (.Call (.Name "list" p) [.Call (.Attribute e "values" apos) [] [] cpos] [] pos) (mListVals me) := by
  refine (pe_listVals hc he hg hm (by kernel_rfl) hbase hline hs).imq fun σ H Q ⟨e, S, Q', A, m, k⟩ => ?_
  refine ⟨e, S, _, A, m, fun x S1 v H1 x1 s1 r m1 => ?_⟩
  split at m1
  · rename_i kvs e1
    obtain ⟨a, ws, rfl, rfl, hr, rk⟩ := dicOf_ok s1 r e1
    exact ⟨a, ws, rfl, hr, fun p np => k _ _ _ _ (x1.trans (.new np)) (lst_ok s1 np (kvr_vals rk)) (.ref p) (m1 p (s1.fresh np))⟩
  · exact m1.elim
end
/-! ### lists of lists are compared -/
def pyTs (S : Sto) : List D → Option (List PyData)
  | [] => some []
  | d :: r => match pyT S d, pyTs S r with
    | some a, some b => some (a :: b)
    | _, _ => none
def pyU (S : Sto) : D → Option PyData
  | .ref a => (match S a with
    | some (.lst ds) => (pyTs S ds).map .list
    | _ => none)
  | d => pyT S d
theorem pyTs_ok {K : PySem.W.Frag} {S : Sto} {H : Hp} (s : SR K S H) : ∀ {ds : List D} {vs : List V} {ps : List PyData}, VRs K H ds vs → pyTs S ds = some ps → DpAll K H vs ps
  | _, _, _, .nil, e => by simp only [pyTs, Option.some.injEq] at e; subst e; exact .nil
  | d :: r, _, _, .cons h t, e => by
    simp only [pyTs] at e
    split at e
    · rename_i a b e1 e2
      cases e
      exact .cons (pyT_ok s h e1) (pyTs_ok s t e2)
    · cases e
theorem pyU_ok {K : PySem.W.Frag} {S : Sto} {H : Hp} {d : D} {v : V} {p : PyData} (s : SR K S H) (r : VR K H d v) (e : pyU S d = some p) : Dp K H v p := by
  unfold pyU at e
  split at e
  · rename_i a
    cases r
    split at e
    · rename_i ds e1
      obtain ⟨vs, h1, r1⟩ := s.lst e1
      simp only [Option.map_eq_some_iff] at e
      obtain ⟨ps, e2, rfl⟩ := e
      exact .lst (SqL.of h1) (pyTs_ok s r1 e2)
    · cases e
  · exact pyT_ok s r e
def eqU (S : Sto) (x y : D) : Option Bool := match pyU S x, pyU S y with
  | some d, some e => if SeqAt.shaped d && SeqAt.shaped e then some (PyData.eqv d e) else none
  | _, _ => none
def nEqL : N2 := fun x y S Q => match eqU S x y with
  | some b => Q (.bl b) S
  | none => False
def nNeL : N2 := fun x y S Q => match eqU S x y with
  | some b => Q (.bl (!b)) S
  | none => False
theorem eqU_ok {K : PySem.W.Frag} {S : Sto} {H : Hp} {x y : D} {vx vy : V} {b : Bool} (s : SR K S H) (rx : VR K H x vx) (ry : VR K H y vy) (e : eqU S x y = some b) :
    ∃ d e, Dp K H vx d ∧ Dp K H vy e ∧ SeqAt.shaped d = true ∧ SeqAt.shaped e = true ∧ PyData.eqv d e = b := by
  unfold eqU at e
  split at e
  · rename_i d d' e1 e2
    split at e
    · rename_i h
      cases e
      rw [Bool.and_eq_true] at h
      exact ⟨d, d', pyU_ok s rx e1, pyU_ok s ry e2, h.1, h.2, rfl⟩
    · cases e
  · cases e
section
variable {X : Cx}
theorem opN_eqL (hu : X.A.units + 64 < cLine) : OpN X (compareOp .Eq) nEqL := by
  refine ⟨_, op_eqD hu, fun x y S Q vx vy H Q' s rx ry n k => ?_⟩
  unfold nEqL at n
  split at n
  · rename_i b e
    obtain ⟨d, d', h1, h2, h3, h4, h5⟩ := eqU_ok s rx ry e
    exact ⟨d, d', h1, h2, h3, h4, by rw [h5]; exact k _ _ _ _ (.refl H) s (.bl b) n⟩
  · exact n.elim
theorem opN_neL (hu : X.A.units + 64 < cLine) : OpN X (compareOp .NotEq) nNeL := by
  refine ⟨_, op_neD hu, fun x y S Q vx vy H Q' s rx ry n k => ?_⟩
  unfold nNeL at n
  split at n
  · rename_i b e
    obtain ⟨d, d', h1, h2, h3, h4, h5⟩ := eqU_ok s rx ry e
    exact ⟨d, d', h1, h2, h3, h4, by rw [h5]; exact k _ _ _ _ (.refl H) s (.bl _) n⟩
  · exact n.elim
end
end N

set_option Elab.async false
set_option linter.all false
set_option maxRecDepth 100000
set_option maxHeartbeats 4000000
namespace N
variable [TabList]
open PySem PySem.Spec PyProof.Rows L2
/-! ### a method with a default that fills up -/
theorem fn_bodyD {P : Program} {w : World} {K : PySem.W.Frag} {mg : Str → Option Value} {base : Heap} {x qual : Str} {params : Arguments} {body : List Stmt} {scope : Scope} {dvs : List V} {f : Addr} {fd : FuncData} {N ps : List Str} {k : Nat} {m : NW → NS}
    (F : FunD K x qual params body scope dvs [] f fd) (S : FnScope N ps scope)
    (hb : ∀ (cdv : Value) (A : Around) (outer : List PySem.Env) (s : Shared) (H : Hp) (E : XK) (w' : NW), Room k (A.deeper (envOfC qual scope s.heap.objs.size f cdv)) → NX (cxOf (L2.CX P w) P w K mg base N qual scope f cdv A outer s H E) H w' →
      JSs (cxOf (L2.CX P w) P w K mg base N qual scope f cdv A outer s H E) H body (m w')) :
    FnOk P w K mg base (L2.CX P w) (k + 1) f fd ps (lSp K ps.length (spOf N.length m)) := by
  refine F.ok S (fun vs H Q E h => h.len) (fun cdv A outer s H vs Q E hr h => ?_)
  obtain ⟨ds, S0, Q', E', h1, h2, h3, h3t, h4, h5, h6⟩ := h
  have tk0 : Takes (cxOf (L2.CX P w) P w K mg base N qual scope f cdv A outer s H E) (fun cls d _ H' => E cls d H') := takes_of rfl rfl rfl rfl
  have tk : Takes (cxOf (L2.CX P w) P w K mg base N qual scope f cdv A outer s H E) (lW K H fun c d _ S' => E' c d S') :=
    tk0.imp fun cls d σ H' ⟨c, e, S', ec, A', q⟩ => by
      rw [ec]; exact h6 c d S' H' A'.x A'.s q
  refine ⟨_, hb cdv A outer s H E _ hr ⟨tk, passes_of rfl, rfl, h3t⟩, ?_⟩
  refine ⟨startN N.length ds, S0, _, ⟨.refl H, ?_, h3⟩, h4, ⟨fun e S' σ H' x A' q => h5 _ _ _ _ x A'.s .non q, fun d S' v H' x s r q => h5 _ _ _ _ x s r q, fun _ _ _ _ _ _ q => q, fun _ _ _ _ _ _ q => q⟩⟩
  rw [startN_eq]
  unfold L2.start
  rw [h2.length]
  exact ER.app (ER.some h2) (ER.none _)
structure FnDf (P : Program) (w : World) (K : PySem.W.Frag) (mg : Str → Option Value) (base : Heap) (k : Nat) (f : Addr) (n : Nat) (sp : NSp) (i : Int) : Prop where
  ex : ∃ fd ps ds, ps.length = n ∧ FnOk P w K mg base (L2.CX P w) k f fd ps (lSp K n sp) ∧ Binds K fd ps ds ∧ Vals [.int i] ds
  kp : PySem.W.keepIn K (.ref f) = true
theorem FnDf.mono {P : Program} {w : World} {K : PySem.W.Frag} {mg : Str → Option Value} {base : Heap} {j k : Nat} {f : Addr} {n : Nat} {sp : NSp} {i : Int} (F : FnDf P w K mg base j f n sp i) (h : j ≤ k) : FnDf P w K mg base k f n sp i := by
  obtain ⟨fd, ps, ds, h1, h2, h3, h4⟩ := F.ex
  exact ⟨⟨fd, ps, ds, h1, h2.mono h, h3, h4⟩, F.kp⟩
def tMethE (X : Cx) (m : Str) (E : L2.St → XK) (i : Int) (ta : TE) (t : TA) : TE := fun σ H Q => ta σ H fun x H1 => ∃ (p C dx : Addr) (fs : List (Str × V)) (f : Addr) (fd : FuncData) (ps : List Str) (ds : List Value) (sp : Sp) (k : Nat), x = .ref p ∧ H1 p = some (.ins C dx fs) ∧ fs.lookup m = none ∧
  Cls X.K C ∧ Meth X.K C m f ∧ FnOk X.prog X.w X.K X.mg X.base (L2.CX X.prog X.w) k f fd ps sp ∧ (Binds X.K fd ps ds ∧ Vals [.int i] ds) ∧ Room k X.A ∧ t σ H1 fun vs H2 => sp (x :: vs ++ [.int i]) H2 Q (E σ)
section
variable {X : Cx} {H0 : Hp} {w : NW} {a b c o : Expr} {ma mb mo : NE} {pos : Pos} {es : List Expr} {mr : NA} {k n : Nat} {f : Addr} {sp : NSp} {i : Int}
theorem pe_methE {m : Str} {apos : Pos} {E : L2.St → XK} {ta : TE} {t : TA} {pl : Sem Bool} (he : PE X o ta) (hx : ∀ σ, PassesAt (L2.CX X.prog X.w) X σ (E σ)) (ha : PA X (a :: es) t)
    (hst : starEach (a :: es) X.env = (false, eval a X.env) :: starEach es X.env := by rfl) (hpl : (backTo pos (starEach es X.env)).any (·.1) = false := by rfl)
    (ht : eval (.Call (.Attribute o m apos) (a :: es) [] pos) X.env = (do
      let ov ← eval o X.env
      standAt apos.atName
      let (f, first) ← holding [ov] (getMethod ov m pl)
      callWith pos f first (backTo pos (starEach (a :: es) X.env)) (backToKw pos (keywordEach [] X.env))) := by rfl) :
    PE X (.Call (.Attribute o m apos) (a :: es) [] pos) (tMethE X m E i ta t) := by
  refine ⟨fun pins s σ H Q I h => ?_⟩
  refine PySem.W.methodCall_KW (pl := pl) (thn (he.run pins s σ H _ I h) fun u s1 ⟨x, H1, I1, rx, p, C, dx, fs, f, fd, ps, ds, sp, k, ex, ea, l, cl, hm, F, hb, hr, q⟩ => ?_) ht
  subst ex
  obtain rfl : u = Value.ref p := rx
  refine getmeth_ok I1 ea cl hm l ?_
  refine PySem.W.callWith_K (first := [.ref p]) (h₀ := X.base) I.ok.mod.kin hm.kp (thn (ha.run pos pins s1 σ H1 _ I1 q) fun us s2 ⟨vs, H2, I2, r, q2⟩ => ⟨I2.kIn, ?_⟩) hst hpl
  exact run_fnSD (us := .ref p :: us) (vs := .ref p :: vs) F hr hb.1 hb.2 (hx σ) I2 (.cons rfl r) q2
structure MtKD (P : Program) (w : World) (K : PySem.W.Frag) (mg : Str → Option Value) (base : Heap) (m : Str) (mt : MT) (i : Int) (k : Nat) : Prop where
  ok : ∀ c n sp, mt c = some (n, sp) → ∃ f, Meth K (He.ga K c) m f ∧ FnDf P w K mg base k f n sp i
/-- a call that leaves the last parameter to its default -/
def mMethD (m : Str) (mt : MT) (i : Int) (w : NW) (mo : NE) (mr : NA) : NE := fun e S Q => mo e S fun x S1 => match x with
  | .ref p => (match S1 p with
    | some (.ins c fs) => fs.lookup m = none ∧ (match mt c with
      | some (n, sp) => mr e S1 fun ds S2 => ds.length + 2 = n ∧ sp (.ref p :: (ds ++ [.int i])) S2 Q fun c d S3 => w c d e S3
      | none => False)
    | _ => False)
  | _ => False
theorem VRs.app1 {K : PySem.W.Frag} {H : Hp} {i : Int} : ∀ {ds : List D} {vs : List V}, VRs K H ds vs → VRs K H (ds ++ [.int i]) (vs ++ [.int i])
  | _, _, .nil => .cons (.int i) .nil
  | _, _, .cons h t => .cons h (VRs.app1 t)
theorem je_methKD {m : Str} {mt : MT} {apos : Pos} {pl : Sem Bool} (cx : NX X H0 w) (hmt : MtKD X.prog X.w X.K X.mg X.base m mt i k) (hr : Room k X.A) (he : JE X H0 o mo) (ha : JA X H0 (a :: es) mr)
    (hst : starEach (a :: es) X.env = (false, eval a X.env) :: starEach es X.env := by rfl) (hpl : (backTo pos (starEach es X.env)).any (·.1) = false := by rfl)
    (ht : eval (.Call (.Attribute o m apos) (a :: es) [] pos) X.env = (do
      let ov ← eval o X.env
      standAt apos.atName
      let (f, first) ← holding [ov] (getMethod ov m pl)
      callWith pos f first (backTo pos (starEach (a :: es) X.env)) (backToKw pos (keywordEach [] X.env))) := by rfl) :
    JE X H0 (.Call (.Attribute o m apos) (a :: es) [] pos) (mMethD m mt i w mo mr) := by
  refine (pe_methE (pl := pl) (i := i) he (fun σ => passAt cx.tk σ) ha hst hpl ht).imq fun σ H Q h => ?_
  obtain ⟨e, S, Q', A, h, kk⟩ := h
  refine ⟨e, S, _, A, h, fun x S1 vx H1 x1 s1 rx n1 => ?_⟩
  split at n1
  · rename_i p
    cases rx
    split at n1
    · rename_i c fs e1
      obtain ⟨dx, ws, h1, r1, co⟩ := s1.ins e1
      obtain ⟨n1, n2⟩ := n1
      split at n2
      · rename_i n sp emt
        obtain ⟨f, hm, F⟩ := hmt.ok c n sp emt
        obtain ⟨fd, ps, dv, h3, h4, h5, h6⟩ := F.ex
        refine ⟨p, _, dx, ws, f, fd, ps, dv, _, k, rfl, h1, (KVR.look (f := m) r1).2 n1, co.cl, hm, h4, ⟨h5, h6⟩, hr, ?_⟩
        refine ⟨e, S1, _, A.next x1 s1, n2, fun ds S2 vs H2 x2 s2 rs q => ?_⟩
        exact sp_ok cx (A.next (x1.trans x2) s2) (x1.trans x2) (.cons (.ref p) (VRs.app1 rs)) (by rw [← q.1]; simp) q.2 kk
      · exact n2.elim
    · exact n1.elim
  · exact n1.elim
end
/-! ### deep things are compared: lists and tuples of lists -/
def pyAll (f : D → Option PyData) : List D → Option (List PyData)
  | [] => some []
  | d :: r => match f d, pyAll f r with
    | some a, some b => some (a :: b)
    | _, _ => none
def pyG (S : Sto) : Nat → D → Option PyData
  | 0, d => pyD d
  | n + 1, .ref a => (match S a with
    | some (.lst ds) => (pyAll (pyG S n) ds).map .list
    | _ => none)
  | n + 1, .tup ds => (pyAll (pyG S n) ds).map .tuple
  | _ + 1, d => pyD d
theorem pyAll_ok {K : PySem.W.Frag} {H : Hp} {f : D → Option PyData} (hf : ∀ d v p, VR K H d v → f d = some p → Dp K H v p) : ∀ {ds : List D} {vs : List V} {ps : List PyData}, VRs K H ds vs → pyAll f ds = some ps → DpAll K H vs ps
  | _, _, _, .nil, e => by simp only [pyAll, Option.some.injEq] at e; subst e; exact .nil
  | d :: r, _, _, .cons h t, e => by
    simp only [pyAll] at e
    split at e
    · rename_i a b e1 e2
      cases e
      exact .cons (hf _ _ _ h e1) (pyAll_ok hf t e2)
    · cases e
theorem pyG_ok {K : PySem.W.Frag} {S : Sto} {H : Hp} (s : SR K S H) : ∀ {n : Nat} {d : D} {v : V} {p : PyData}, VR K H d v → pyG S n d = some p → Dp K H v p := by
  intro n
  induction n with
  | zero =>
    intro d v p r e
    exact pyD_ok r e
  | succ n ih =>
    intro d v p r e
    cases d with
    | ref a =>
      simp only [pyG] at e
      cases r
      split at e
      · rename_i ds e1
        obtain ⟨vs, h1, r1⟩ := s.lst e1
        simp only [Option.map_eq_some_iff] at e
        obtain ⟨ps, e2, rfl⟩ := e
        exact .lst (SqL.of h1) (pyAll_ok (fun d v p r e => ih r e) r1 e2)
      · cases e
    | tup ds =>
      simp only [pyG, Option.map_eq_some_iff] at e
      obtain ⟨ps, e2, rfl⟩ := e
      cases r with
      | tup t r => exact .tup t.sq (pyAll_ok (fun d v p r e => ih r e) r e2)
    | _ => exact pyD_ok r e
def eqG (S : Sto) (x y : D) : Option Bool := match pyG S 3 x, pyG S 3 y with
  | some d, some e => if SeqAt.shaped d && SeqAt.shaped e then some (PyData.eqv d e) else none
  | _, _ => none
def nEqG : N2 := fun x y S Q => match eqG S x y with
  | some b => Q (.bl b) S
  | none => False
def nNeG : N2 := fun x y S Q => match eqG S x y with
  | some b => Q (.bl (!b)) S
  | none => False
theorem eqG_ok {K : PySem.W.Frag} {S : Sto} {H : Hp} {x y : D} {vx vy : V} {b : Bool} (s : SR K S H) (rx : VR K H x vx) (ry : VR K H y vy) (e : eqG S x y = some b) :
    ∃ d e, Dp K H vx d ∧ Dp K H vy e ∧ SeqAt.shaped d = true ∧ SeqAt.shaped e = true ∧ PyData.eqv d e = b := by
  unfold eqG at e
  split at e
  · rename_i d d' e1 e2
    split at e
    · rename_i h
      cases e
      rw [Bool.and_eq_true] at h
      exact ⟨d, d', pyG_ok s rx e1, pyG_ok s ry e2, h.1, h.2, rfl⟩
    · cases e
  · cases e
section
variable {X : Cx}
theorem opN_eqG (hu : X.A.units + 64 < cLine) : OpN X (compareOp .Eq) nEqG := by
  refine ⟨_, op_eqD hu, fun x y S Q vx vy H Q' s rx ry n k => ?_⟩
  unfold nEqG at n
  split at n
  · rename_i b e
    obtain ⟨d, d', h1, h2, h3, h4, h5⟩ := eqG_ok s rx ry e
    exact ⟨d, d', h1, h2, h3, h4, by rw [h5]; exact k _ _ _ _ (.refl H) s (.bl b) n⟩
  · exact n.elim
theorem opN_neG (hu : X.A.units + 64 < cLine) : OpN X (compareOp .NotEq) nNeG := by
  refine ⟨_, op_neD hu, fun x y S Q vx vy H Q' s rx ry n k => ?_⟩
  unfold nNeG at n
  split at n
  · rename_i b e
    obtain ⟨d, d', h1, h2, h3, h4, h5⟩ := eqG_ok s rx ry e
    exact ⟨d, d', h1, h2, h3, h4, by rw [h5]; exact k _ _ _ _ (.refl H) s (.bl _) n⟩
  · exact n.elim
end
/-! ### x or y as a value, by the truth of x -/
section
variable {X : Cx} {H0 : Hp} {a b : Expr} {ma mb : NE} {rest : List Expr} {pos : Pos}
def truD : D → Option Bool
  | .non => some false
  | .bl b => some b
  | .int i => some (i != 0)
  | _ => none
theorem truD_ok {K : PySem.W.Frag} {H : Hp} {d : D} {v : V} {k : Bool} (r : VR K H d v) (e : truD d = some k) : TruV K v H k := by
  cases d with
  | non => cases r; cases e; rfl
  | bl b => cases r; cases e; rfl
  | int i => cases r; cases e; rfl
  | _ => cases e
def mOrT (m n : NE) : NE := fun e S Q => m e S fun d S1 => match truD d with
  | some true => Q d S1
  | some false => n e S1 Q
  | none => False
theorem je_orT (ha : JE X H0 a ma) (hb : JE X H0 (.BoolOp .Or (b :: rest) pos) mb) : JE X H0 (.BoolOp .Or (a :: b :: rest) pos) (mOrT ma mb) := by
  refine (pe_orT ha hb).imq fun σ H Q h => ?_
  obtain ⟨e, S, Q', A, m, k⟩ := h
  refine ⟨e, S, _, A, m, fun d S1 v H1 x1 s1 r q => ?_⟩
  split at q
  · rename_i e1
    exact ⟨true, truD_ok r e1, iteT (k _ S1 _ H1 x1 s1 r q)⟩
  · rename_i e1
    exact ⟨false, truD_ok r e1, iteF ⟨e, S1, Q', A.next x1 s1, q, fun d S' v H' x2 s2 => k d S' v H' (x1.trans x2) s2⟩⟩
  · exact q.elim
end
end N

set_option Elab.async false
set_option linter.all false
set_option maxRecDepth 100000
set_option maxHeartbeats 4000000
namespace N
variable [TabList]
open PySem PySem.Spec PyProof.Rows L2
/-! ### a text or a list, so many times -/
section
variable {X : Cx}
omit [TabList] in
theorem op_mul_str : OpR X (binaryOp .Mult) (fun x y H Q => ∃ z i, x = .str z ∧ y = .int i ∧ (0 ≤ i ∧ i ≤ 1000 ∧ z.length ≤ 1000) ∧ Q (.str (Txt.mul z i)) H) := by
  intro pins s σ H x y v u Q I rx ry h
  obtain ⟨z, i, rfl, rfl, ⟨i0, i1, hz⟩, q⟩ := h
  obtain ⟨t, rfl⟩ := rx
  obtain ⟨t', rfl⟩ := ry
  refine SB.mul ⟨?_, fun n1 _ => ?_, fun n1 _ => ?_⟩ fun t' k => ⟨.str (Txt.mul z i), H, I.tok _, ⟨_, rfl⟩, q⟩
  · have a : decide (i < -(2 ^ 63 : Int)) = false := decide_eq_false (by omega)
    have b : decide (i ≥ (2 ^ 63 : Int)) = false := decide_eq_false (by omega)
    rw [a, b]; rfl
  · have h1 : (1000 : Int) ≤ (2 ^ 63 - 1) / i := by
      rw [Int.le_ediv_iff_mul_le (by omega)]
      omega
    omega
  · unfold Builtin.Str.tooLong
    have h1 : z.length * i.toNat ≤ 1000 * 1000 := Nat.mul_le_mul hz (by omega)
    have h2 : 1000 * 1000 ≤ sizeLine := by decide
    exact decide_eq_false (by omega)
def nMulS : N2 := fun x y S Q => match x, y with
  | .str z, .int i => (0 ≤ i ∧ i ≤ 1000 ∧ z.length ≤ 1000) ∧ Q (.str (Txt.mul z i)) S
  | _, _ => False
theorem opN_mulS : OpN X (binaryOp .Mult) nMulS := by
  refine ⟨_, op_mul_str, fun x y S Q vx vy H Q' s rx ry n k => ?_⟩
  unfold nMulS at n
  split at n
  · rename_i z i
    cases rx; cases ry
    exact ⟨z, i, rfl, rfl, n.1, k _ _ _ _ (.refl H) s (.str _) n.2⟩
  · exact n.elim
theorem VRs.rep {K : PySem.W.Frag} {H : Hp} {ds : List D} {vs : List V} (h : VRs K H ds vs) : ∀ n : Nat, VRs K H (List.replicate n ds).flatten (List.replicate n vs).flatten
  | 0 => .nil
  | n + 1 => by
    rw [List.replicate_succ, List.replicate_succ, List.flatten_cons, List.flatten_cons]
    exact h.append (VRs.rep h n)
def nMulL : N2 := fun x y S Q => match x, y with
  | .ref a, .int i => (match S a with
    | some (.lst xs) => (0 ≤ i ∧ i ≤ 1000 ∧ xs.length ≤ 1000) ∧ ∀ p, S p = none → Q (.ref p) (N.put S p (.lst (List.replicate i.toNat xs).flatten))
    | _ => False)
  | _, _ => False
theorem opN_mulL : OpN X (binaryOp .Mult) nMulL := by
  refine ⟨_, op_rep, fun x y S Q vx vy H Q' s rx ry n k => ?_⟩
  unfold nMulL at n
  split at n
  · rename_i a i
    cases rx; cases ry
    split at n
    · rename_i xs e1
      obtain ⟨vs, h1, r1⟩ := s.lst e1
      obtain ⟨⟨i0, i1, hz⟩, q⟩ := n
      have l1 := r1.length
      have h2 : 1000 * 1000 ≤ sizeLine := by decide
      have h3 : vs.length * i.toNat ≤ 1000 * 1000 := Nat.mul_le_mul (by omega) (by omega)
      refine ⟨a, i, vs, rfl, rfl, h1, by omega, by omega, by omega, fun p np => ?_⟩
      exact k _ _ _ _ (.new np) (lst_ok s np (r1.rep i.toNat)) (.ref p) (q p (s.fresh np))
    · exact n.elim
  · exact n.elim
end
end N

set_option Elab.async false
set_option linter.all false
set_option maxRecDepth 100000
set_option maxHeartbeats 4000000
namespace N
variable [TabList]
open PySem PySem.Spec PyProof.Rows L2
/-! ### zip over two of any kind: a list, a tuple, a text's signs -/
/-- one of the two that are zipped: what it reads, and its iterator -/
structure Sd (P : Program) (w : World) (K : PySem.W.Frag) (rd : Hp → List V → Prop) (j : Addr) (fs : List Addr) (tn : Nat → Heap → Prop) : Prop where
  same : ∀ {X : Cx} {pins : List (Addr × Obj)} {σ : L2.St} {H : Hp} {s : Shared} {xs ys : List V}, X.K = K → Inv X pins σ H s → rd H xs → rd H ys → xs = ys
  isobj : ∀ i h, tn i h → ∃ o, h.get? j = some o ∧ ∀ v, o.data ≠ .cell v
  stays : ∀ i h h', tn i h → (∀ o, h.get? j = some o → h'.get? j = some o) → tn i h'
  draw : ∀ {X : Cx} {pins : List (Addr × Obj)} {σ : L2.St} {H : Hp} {s : Shared} {xs : List V} (i : Nat), X.K = K → Inv X pins σ H s → rd H xs → tn i s.heap →
    ∃ (Pv : Nat → Value → Prop) (T : Nat → Heap → Prop), (∀ A : Around, A.handled = none → Draws P w A j fs xs.length Pv T) ∧ T i s.heap ∧ (∀ i h, T i h → tn i h) ∧ ∀ i v, Pv i v → ∃ x, xs[i]? = some x ∧ RelV x v
/-- a value that can be walked, with what is read -/
inductive Kd (K : PySem.W.Frag) (H : Hp) : V → (Hp → List V → Prop) → Prop
  | lst (a : Addr) (xs : List V) : SqL K H a xs → Kd K H (.ref a) fun G ys => SqL K G a ys
  | tup (a : Addr) (xs : List V) : SqT K H a xs → Kd K H (.ref a) fun G ys => SqT K G a ys
  | str (z : Str) : Kd K H (.str z) fun _ ys => ys = z.cps.toList.map fun c => V.str ⟨#[c]⟩
omit [TabList] in
theorem zw_at {xs : List V} {us : List Value} (r : Vals xs us) {i : Nat} {v : Value} (h : us.toArray[i]? = some v) : ∃ x, xs[i]? = some x ∧ RelV x v := by
  have h1 : us[i]? = some v := by simpa using h
  have hl : i < us.length := by
    rcases Nat.lt_or_ge i us.length with q | q
    · exact q
    · rw [List.getElem?_eq_none q] at h1; cases h1
  have hx : i < xs.length := by rw [r.length]; exact hl
  obtain ⟨u, hu, ru⟩ := r.get (List.getElem?_eq_getElem hx)
  rw [hu] at h1
  cases h1
  exact ⟨_, List.getElem?_eq_getElem hx, ru⟩
omit [TabList] in
theorem kd_begins {X : Cx} {pins : List (Addr × Obj)} {σ : L2.St} {H : Hp} {s : Shared} {x : V} {u : Value} {rd : Hp → List V → Prop} (I : Inv X pins σ H s) (k : Kd X.K H x rd) (r : RelV x u) :
    ∃ (o : Obj) (B : Heap → Prop) (f : List Addr) (tn : Addr → Nat → Heap → Prop), Begins u o B ∧ B s.heap ∧ (∀ c ∈ f, c < s.heap.objs.size) ∧ (∀ j h, h.get? j = some o → tn j 0 h) ∧ ∀ j, j ∉ f → Sd X.prog X.w X.K rd j (j :: f) (tn j) := by
  cases k with
  | lst a xs hq =>
    cases r
    obtain ⟨its, rv, p, hz⟩ := I.list hq
    refine ⟨_, _, [a], fun j i h => h.IsListIter j a i, begins_list a its.toArray, p.isList, fun c hc => ?_, fun j h e => ⟨_, e, rfl, rfl⟩, fun j hj => ⟨?_, ?_, ?_, ?_⟩⟩
    · have e : c = a := by simpa using hc
      rw [e]; exact p.lt
    · intro Y ps τ G t ys zs hK J h1 h2
      rw [← hK] at h1 h2
      exact J.list_inj h1 h2
    · rintro i h ⟨o, e, c, d⟩
      exact ⟨o, e, fun v z => by rw [d] at z; cases z⟩
    · exact fun i h h' st k => Heap.IsListIter.at st k
    · intro Y ps τ G t ys i hK J h1 st
      obtain ⟨us, rs, ps, _⟩ := J.list (by rw [hK]; exact h1)
      have ha : a ≠ j := fun e => hj (by simp [e])
      have el : ys.length = us.toArray.size := by rw [rs.length, List.size_toArray]
      refine ⟨fun i v => us.toArray[i]? = some v, fun i h => h.IsListIter j a i ∧ h.IsList a us.toArray, fun A hA => by rw [el]; exact Draws.list hA j a ha us.toArray, ⟨st, ps.isList⟩, fun i h q => q.1, fun i v q => zw_at rs q⟩
  | tup a xs hq =>
    cases r
    obtain ⟨its, rv, p, hz⟩ := I.tuple hq
    refine ⟨_, _, [a], fun j i h => h.IsTupleIter j a i, begins_tuple a its.toArray, (show s.heap.IsTuple a its.toArray from p), fun c hc => ?_, fun j h e => ⟨_, e, rfl, rfl⟩, fun j hj => ⟨?_, ?_, ?_, ?_⟩⟩
    · have e : c = a := by simpa using hc
      obtain ⟨o, ho, _⟩ := id p
      rw [e]; exact Heap.lt_size ho
    · intro Y ps τ G t ys zs hK J h1 h2
      rw [← hK] at h1 h2
      exact J.tuple_inj h1 h2
    · rintro i h ⟨o, e, c, d⟩
      exact ⟨o, e, fun v z => by rw [d] at z; cases z⟩
    · exact fun i h h' st k => Heap.IsTupleIter.at st k
    · intro Y ps τ G t ys i hK J h1 st
      obtain ⟨us, rs, ps, _⟩ := J.tuple (by rw [hK]; exact h1)
      have ha : a ≠ j := fun e => hj (by simp [e])
      have el : ys.length = us.toArray.size := by rw [rs.length, List.size_toArray]
      refine ⟨fun i v => us.toArray[i]? = some v, fun i h => h.IsTupleIter j a i ∧ h.IsTuple a us.toArray, fun A hA => by rw [el]; exact Draws.tuple hA j a ha us.toArray, ⟨st, (show t.heap.IsTuple a us.toArray from ps)⟩, fun i h q => q.1, fun i v q => zw_at rs q⟩
  | str z =>
    obtain ⟨tk, rfl⟩ := r
    refine ⟨_, _, [], fun j i h => h.IsStrIter j (strIterType z) z tk i, begins_text z tk, True.intro, (fun c hc => by cases hc), fun j h e => ⟨_, e, rfl, rfl⟩, fun j hj => ⟨?_, ?_, ?_, ?_⟩⟩
    · intro Y ps τ G t ys zs hK J h1 h2
      rw [h1, h2]
    · rintro i h ⟨o, e, c, d⟩
      exact ⟨o, e, fun v z => by rw [d] at z; cases z⟩
    · rintro i h h' ⟨o, e, r⟩ k
      exact ⟨o, k o e, r⟩
    · intro Y ps τ G t ys i hK J h1 st
      subst h1
      refine ⟨fun i v => ∃ c u, z.cps[i]? = some c ∧ v = .str ⟨#[c]⟩ u, fun i h => h.IsStrIter j (strIterType z) z tk i, fun A hA => by rw [List.length_map, Array.length_toList]; exact Draws.text hA j z tk, st, fun i h q => q, fun i v q => ?_⟩
      obtain ⟨c, t', e, rfl⟩ := q
      exact ⟨.str ⟨#[c]⟩, by rw [List.getElem?_map]; simp [e], ⟨t', rfl⟩⟩
/-- what two read, side by side, the items in new pairs -/
def Itw (r1 r2 : Hp → List V → Prop) : It :=
  ⟨fun i H => ∃ (xs ys : List V), r1 H xs ∧ r2 H ys ∧ i < xs.length ∧ i < ys.length,
    fun i H v H' => ∃ T x y, v = .ref T ∧ H T = none ∧ H' = upd H T (.tup [x, y]) ∧ (∀ xs, r1 H xs → xs[i]? = some x) ∧ ∀ ys, r2 H ys → ys[i]? = some y,
    fun i H => ∃ (xs ys : List V), r1 H xs ∧ r2 H ys ∧ i = min xs.length ys.length⟩
omit [TabList] in
theorem turn_zipW {P : Program} {w : World} {K : PySem.W.Frag} {elts : List Expr} {kk : Nat} {tpos : Pos} {r1 r2 : Hp → List V → Prop} {z TI TO j1 j2 : Addr} {f1 f2 : List Addr} {t1 t2 : Nat → Heap → Prop}
    (D : ZipSep2 z TI TO j1 j2 f1 f2) (S1 : Sd P w K r1 j1 f1 t1) (S2 : Sd P w K r2 j2 f2 t2) :
    Turn P w K (.Tuple elts kk tpos) (Itw r1 r2) [z, TI, TO, j1, j2] z (fun i h => IsZip h z TI TO .none ∧ IsTupOf2 h TI (.ref j1) (.ref j2) ∧ (∃ x y, IsTupOf2 h TO x y) ∧ t1 i h ∧ t2 i h) where
  mem := by simp
  obj := fun i h st c hc => by
    obtain ⟨hz, hTI, ⟨x, y, hTO⟩, s1, s2⟩ := st
    have cs : c = z ∨ c = TI ∨ c = TO ∨ c = j1 ∨ c = j2 := by simpa using hc
    rcases cs with q | q | q | q | q <;> subst q
    · exact ⟨_, hz, fun v q => nomatch q⟩
    · exact ⟨_, hTI, fun v q => nomatch q⟩
    · exact ⟨_, hTO, fun v q => nomatch q⟩
    · exact S1.isobj i h s1
    · exact S2.isobj i h s2
  keep := fun i h h' st k => by
    obtain ⟨hz, hTI, ⟨x, y, hTO⟩, s1, s2⟩ := st
    exact ⟨k z (by simp) _ hz, k TI (by simp) _ hTI, ⟨x, y, k TO (by simp) _ hTO⟩, S1.stays i h h' s1 (k j1 (by simp)), S2.stays i h h' s2 (k j2 (by simp))⟩
  item := by
    intro X hP hw hK hc i pins s σ H E I hf st hg
    subst hP hw hK
    obtain ⟨hz, hTI, ⟨x0, y0, hTO⟩, s1, s2⟩ := st
    obtain ⟨xs, ys, qx, qy, lx, ly⟩ := hg
    obtain ⟨P1, T1, D1, u1, b1, v1⟩ := S1.draw i rfl I qx s1
    obtain ⟨P2, T2, D2, u2, b2, v2⟩ := S2.draw i rfl I qy s2
    have hh : X.A.in1.handled = none := I.ok.hd hc
    have zlt : z < s.heap.objs.size := Heap.lt_size hz
    refine wpAny_pyNext_zipD2_item D (D1 _ hh) (D2 _ hh) hz hTI hTO u1 u2 lx ly fun x1 x2 h' tk p1 p2 z' TO' n1 n2 hT hsz hk => ?_
    obtain ⟨x, hx, rx⟩ := v1 i x1 p1
    obtain ⟨y, hy, ry⟩ := v2 i x2 p2
    refine ⟨_, rfl, wpAny_letOwnedTupleGo_zip (s := { s with heap := h', toks := tk }) z' fun h'' z'' sb => ?_⟩
    have up : ∀ b o, b ∉ [z, TI, TO, j1, j2] → s.heap.get? b = some o → h''.get? b = some o := fun b o hb e =>
      (sb.2 b fun q => hb (by simp [q])).trans (hk b o (fun q => hb (by simp [q])) (fun q => hb (by simp [q])) (fun q => hb (by simp [q])) (fun q => hb (by simp [q])) e)
    have hT2 : IsTupOf2 h'' s.heap.objs.size x1 x2 := (sb.2 _ (Nat.ne_of_gt zlt)).trans hT
    have I1 : Inv X pins σ (upd H s.heap.objs.size (.tup [x, y])) { s with heap := h'', toks := tk } :=
      I.turnedNew up hf (Nat.le_refl _) ⟨by show 2 ≤ sizeLine; decide, [x1, x2], .cons rx (.cons ry .nil), ⟨_, hT2, rfl, _, rfl⟩⟩
    refine ⟨.ref s.heap.objs.size, _, I1, rfl, ⟨_, x, y, rfl, I.hok.fresh (Nat.le_refl _), rfl, fun l hl => ?_, fun l hl => ?_⟩, ⟨z'', ?_, ⟨x1, x2, ?_⟩, ?_, ?_⟩, fun c hcm => ?_⟩
    · rw [S1.same rfl I hl qx]; exact hx
    · rw [S2.same rfl I hl qy]; exact hy
    · exact (sb.2 _ D.TIz).trans (hk _ _ D.TIz D.TITO D.TIi1 D.TIi2 hTI)
    · exact (sb.2 _ D.TOz).trans TO'
    · exact S1.stays _ _ _ (b1 _ _ n1) fun o q => (sb.2 _ D.zi1.symm).trans q
    · exact S2.stays _ _ _ (b2 _ _ n2) fun o q => (sb.2 _ D.zi2.symm).trans q
    · have lt : c < s.heap.objs.size := by
        have cs : c = z ∨ c = TI ∨ c = TO ∨ c = j1 ∨ c = j2 := by simpa using hcm
        rcases cs with q | q | q | q | q <;> subst q
        · exact zlt
        · exact Heap.lt_size hTI
        · exact Heap.lt_size hTO
        · obtain ⟨_, e, _⟩ := S1.isobj _ _ s1; exact Heap.lt_size e
        · obtain ⟨_, e, _⟩ := S2.isobj _ _ s2; exact Heap.lt_size e
      rw [upd_ne (Nat.ne_of_lt lt)]
      exact (hf c hcm).1
  done := by
    intro X hP hw hK hc i pins s σ H E I hf st hg
    subst hP hw hK
    obtain ⟨hz, hTI, ⟨x0, y0, hTO⟩, s1, s2⟩ := st
    obtain ⟨xs, ys, qx, qy, e⟩ := hg
    obtain ⟨P1, T1, D1, u1, b1, v1⟩ := S1.draw i rfl I qx s1
    obtain ⟨P2, T2, D2, u2, b2, v2⟩ := S2.draw i rfl I qy s2
    have hh : X.A.in1.handled = none := I.ok.hd hc
    refine wpAny_pyNext_zipD2_end D (D1 _ hh) (D2 _ hh) hz hTI hTO u1 u2 (by omega) (by omega) (by omega) fun h' tk hk => ⟨rfl, ?_⟩
    exact I.turnedL (ch := [z, TI, TO, j1, j2]) (fun b o hb q => hk b o (fun e => hb (by simp [e])) (fun e => hb (by simp [e])) (fun e => hb (by simp [e])) (fun e => hb (by simp [e])) q) hf
  self := fun A i s Q E st h => wpAny_pyIter_zip st.1 h
omit [TabList] in
theorem sep5 (n : Nat) {f1 f2 : List Addr} (h1 : ∀ c ∈ f1, c < n) (h2 : ∀ c ∈ f2, c < n) : ZipSep2 (n + 4) (n + 2) (n + 3) n (n + 1) (n :: f1) ((n + 1) :: f2) := by
  have a1 : ∀ c, n ≤ c → c ∉ f1 := fun c hc hm => absurd (h1 c hm) (Nat.not_lt.mpr hc)
  have a2 : ∀ c, n ≤ c → c ∉ f2 := fun c hc hm => absurd (h2 c hm) (Nat.not_lt.mpr hc)
  have nn : ∀ {a b : Nat}, (a : Nat) ≠ b → ((a : Addr) : Addr) ≠ b := fun h => h
  constructor
  all_goals first
    | exact List.mem_cons_self ..
    | (refine nn ?_; omega)
    | (rw [List.mem_cons]
       rintro (e | e)
       · revert e; exact nn (by omega)
       · first | exact a1 _ (by omega) e | exact a2 _ (by omega) e | exact a1 _ (Nat.le_add_right _ _) e | exact a2 _ (Nat.le_refl _) e | exact a2 _ (Nat.le_add_right _ _) e)
def iZipWV (K : PySem.W.Frag) (ta : TA) : TI := fun σ H R => ta σ H fun vs H1 => ∃ x y r1 r2, vs = [x, y] ∧ Kd K H1 x r1 ∧ Kd K H1 y r2 ∧ R (Itw r1 r2) H1
omit [TabList] in
theorem pi_zipW {X : Cx} {e e2 : Expr} {ta : TA} {p pos tpos : Pos} {elts : List Expr} {kk : Nat} (hg : Gl X "zip") (hm : X.mg "zip" = none) (ha : PA X [e, e2] ta)
    (hs : starEach [e, e2] X.env = (false, eval e X.env) :: starEach [e2] X.env := by rfl) (hpl : (backTo pos (starEach [e2] X.env)).any (·.1) = false := by rfl) :
    PI X (.Tuple elts kk tpos) (.Call (.Name "zip" p) [e, e2] [] pos) (iZipWV X.K ta) := by
  refine ⟨fun pins s σ H R I h => ?_⟩
  refine Call_ (ld_blt I hg hm PyProof.Rows.boot_zip (PyProof.Rows.callWith_type1 (thn (ha.run pos pins s σ H _ I h) fun us t ⟨vs, H1, I1, rr, x, y, r1, r2, ev, k1, k2, q⟩ => ?_) hs hpl))
  subst ev
  obtain ⟨u, v, rfl, ru, rv⟩ : ∃ u v, us = [u, v] ∧ RelV x u ∧ RelV y v := by
    cases rr with
    | cons a rr =>
      cases rr with
      | cons b rr =>
        cases rr
        exact ⟨_, _, rfl, a, b⟩
  obtain ⟨o1, B1, f1, t1, g1, c1, l1, z1, d1⟩ := kd_begins I1 k1 ru
  obtain ⟨o2, B2, f2, t2, g2, c2, l2, z2, d2⟩ := kd_begins I1 k2 rv
  refine zip_begins2 g1 g2 c1 c2 fun h' hz hTI hTO e1 e2 hsz hk => wpAny_pyIter_zip hz ?_
  have I2 : Inv X pins σ H1 { t with heap := h' } := I1.kept (t' := t.toks) hk
  refine ⟨t.heap.objs.size + 4, [t.heap.objs.size + 4, t.heap.objs.size + 2, t.heap.objs.size + 3, t.heap.objs.size, t.heap.objs.size + 1], _, _, H1, rfl, I2,
    turn_zipW (sep5 t.heap.objs.size l1 l2) (d1 _ fun m => absurd (l1 _ m) (Nat.lt_irrefl _)) (d2 _ fun m => absurd (l2 _ m) (Nat.not_lt.mpr (Nat.le_add_right _ _))), ⟨hz, hTI, ⟨_, _, hTO⟩, z1 _ _ e1, z2 _ _ e2⟩, fun c hcm => ?_, q⟩
  have cs : c = t.heap.objs.size + 4 ∨ c = t.heap.objs.size + 2 ∨ c = t.heap.objs.size + 3 ∨ c = t.heap.objs.size ∨ c = t.heap.objs.size + 1 := by simpa using hcm
  have le : t.heap.objs.size ≤ c := by
    rcases cs with q | q | q | q | q <;> subst q <;> first | exact Nat.le_refl _ | exact Nat.le_add_right _ _
  exact I1.fpOk le (I1.hok.fresh le)
/-- what is walked, read: at every later state that keeps it -/
theorem walk_kd {K : PySem.W.Frag} {d : D} {S : Sto} {H : Hp} {v : V} {Q : List D → Keep → Prop} (s : SR K S H) (r : VR K H d v) (m : nWalkA d S Q) : ∃ ds kp rd, Q ds kp ∧ kp S ∧ Kd K H v rd ∧ ∀ H' S', HExt H H' → SR K S' H' → kp S' → ∃ vs, rd H' vs ∧ VRs K H' ds vs := by
  unfold nWalkA at m
  split at m
  · cases r with
    | tup tr rr => exact ⟨_, _, _, m, True.intro, .tup _ _ tr.sq, fun H' S' x _ _ => ⟨_, (tr.ext x).sq, rr.ext x⟩⟩
  · cases r with
    | rol tr rr => exact ⟨_, _, _, m, True.intro, .lst _ _ tr.sq, fun H' S' x _ _ => ⟨_, (tr.ext x).sq, rr.ext x⟩⟩
  · rename_i z
    cases r
    refine ⟨_, _, _, m, True.intro, .str z, fun H' S' x _ _ => ⟨_, rfl, ?_⟩⟩
    unfold signsD
    induction z.cps.toList with
    | nil => exact .nil
    | cons c cs ih => exact .cons (.str _) ih
  · rename_i p
    cases r
    split at m
    · rename_i ds e
      obtain ⟨vs, g, rr⟩ := s.lst e
      refine ⟨_, _, _, m, e, .lst p vs (SqL.of g), fun H' S' x s' kk => ?_⟩
      obtain ⟨vs, g, rr⟩ := s'.lst kk
      exact ⟨vs, SqL.of g, rr⟩
    · exact m.elim
  · exact m.elim
def iZipW (m m' : NE) : NI := fun e S Q => m e S fun x S1 => m' e S1 fun y S2 => nWalkA x S2 fun ds kp => nWalkA y S2 fun es kp' => Q (zipD ds es) (fun S' => kp S' ∧ kp' S') S2
section
variable {X : Cx} {H0 : Hp} {w : NW} {a b : Expr} {ma mb : NE}
theorem ji_zipW {p rpos tpos : Pos} {elts : List Expr} {kk : Nat} (hm : X.mg "zip" = none) (ha : JE X H0 a ma) (hb : JE X H0 b mb) (hgl : Gl X "zip" := by rfl) (hs : starEach [a, b] X.env = (false, eval a X.env) :: starEach [b] X.env := by rfl) (hpl : (backTo rpos (starEach [b] X.env)).any (·.1) = false := by rfl) (hsb : starEach [b] X.env = (false, eval b X.env) :: starEach [] X.env := by rfl) :
    JI X H0 (.Tuple elts kk tpos) (.Call (.Name "zip" p) [a, b] [] rpos) (iZipW ma mb) := by
  refine (pi_zipW hgl hm (ja_cons ha (ja_cons hb ja_nil hsb) hs) hs hpl).imq fun σ H R ⟨e, S, Q', A, m, k⟩ => ?_
  refine ⟨e, S, _, A, two_args (K := X.K) m, fun ds S1 vs H1 x1 s1 r ⟨x, y, ed, m1⟩ => ?_⟩
  subst ed
  obtain ⟨v, u, rfl, rv, ru⟩ := vrs2 r
  obtain ⟨ds, kp, r1, q, kk, k1, R1⟩ := walk_kd s1 rv m1
  obtain ⟨es, kp', r2, q', kk', k2, R2⟩ := walk_kd s1 ru q
  refine ⟨v, u, r1, r2, rfl, k1, k2, k _ _ _ _ _ x1 s1 ⟨kk, kk'⟩ q' ⟨fun H S x s kk => ?_, fun i H S hi x s kk => ?_, fun i H S y H' d hd x s kk yl => ?_⟩⟩
  · obtain ⟨vs, h1, g1⟩ := R1 H S x s kk.1
    obtain ⟨us, h2, g2⟩ := R2 H S x s kk.2
    exact ⟨vs, us, h1, h2, by rw [zipD_length, g1.length, g2.length]⟩
  · obtain ⟨vs, h1, g1⟩ := R1 H S x s kk.1
    obtain ⟨us, h2, g2⟩ := R2 H S x s kk.2
    rw [zipD_length, g1.length, g2.length] at hi
    exact ⟨vs, us, h1, h2, by omega, by omega⟩
  · obtain ⟨vs, h1, g1⟩ := R1 H S x s kk.1
    obtain ⟨us, h2, g2⟩ := R2 H S x s kk.2
    obtain ⟨T, a', b', rfl, nT, rfl, y1, y2⟩ := yl
    obtain ⟨x', y', hx, hy, rfl⟩ := zipD_get hd
    obtain ⟨v, hv, rv⟩ := g1.get hx
    obtain ⟨u, hu, ru⟩ := g2.get hy
    have e1 := y1 vs h1
    have e2 := y2 us h2
    rw [hv] at e1; rw [hu] at e2
    cases e1; cases e2
    exact new_pair s nT rv ru
end
/-! ### sum of a tuple of numbers -/
def rSumT (K : PySem.W.Frag) : List V → Hp → VK → Prop := fun vs H Q => ∃ (a : Addr) (ks : List Int), vs = [V.ref a] ∧ SqT K H a (ks.map V.int) ∧ Q (.int ks.sum) H
section
variable {X : Cx}
omit [TabList] in
theorem cr_sumT (hc : X.calm = true) : CallR X (.builtin "sum") (rSumT X.K) := by
  intro pins s σ H vs us Q I rel h
  obtain ⟨a, ks, rfl, sq, q⟩ := h
  obtain ⟨its, rv, ht, _⟩ := I.tuple sq
  rw [Vals.ref1 rel]
  have hi := rv.ints
  obtain ⟨ys, ey⟩ := hi.allInts.items
  have nums : numsOf (intItems ys).toList = ks := by rw [← ey]; exact hi.numsOf
  rw [nums_intItems] at nums
  rw [ey] at ht
  refine PySem.W.ktm_sumG (I.ok.hd hc) ht fun h' tk t' kept => ?_
  rw [preSum_eq, List.take_of_length_le (by simp), nums]
  exact ⟨.int _, H, I.kept kept, ⟨_, rfl⟩, q⟩
/-- sum of a list, of a tuple -/
def nSum1 : NL := fun xs S Q => match xs with
  | [.tup r] => (match intsOf r with
    | some ks => Q (.int ks.sum) S
    | none => False)
  | xs => nSum xs S Q
theorem callN_sum1 (hc : X.calm = true) : CallN X (.builtin "sum") nSum1 := by
  obtain ⟨rl, h1, h2⟩ := callN_sum (X := X) hc
  refine ⟨_, (cr_sumT hc).or h1, fun xs S Q vs H Q' s r m k => ?_⟩
  unfold nSum1 at m
  split at m
  · rename_i es
    obtain ⟨v, rfl, rv⟩ := vrs1 r
    split at m
    · rename_i ks e2
      have e3 := intsOf_eq e2
      subst e3
      cases rv with
      | tup tr rr =>
        have e4 := vrs_ints rr
        subst e4
        exact .inl ⟨_, ks, rfl, tr.sq, k _ _ _ _ (.refl H) s (.int _) m⟩
    · exact m.elim
  · exact .inr (h2 _ _ _ _ _ _ s r m k)
end
omit [TabList] in
theorem u_nSum1T (r : List D) (S : Sto) (Q : NQ) : nSum1 [.tup r] S Q = (match intsOf r with
    | some ks => Q (.int ks.sum) S
    | none => False) := id rfl
omit [TabList] in
theorem u_nSum1L (a : Addr) (S : Sto) (Q : NQ) : nSum1 [.ref a] S Q = nSum [.ref a] S Q := id rfl
omit [TabList] in
theorem u_iZipW (m m' : NE) (e : Env) (S : Sto) (Q : List D → Keep → Sto → Prop) : iZipW m m' e S Q = (m e S fun x S1 => m' e S1 fun y S2 => nWalkA x S2 fun ds kp => nWalkA y S2 fun es kp' => Q (zipD ds es) (fun S' => kp S' ∧ kp' S') S2) := id rfl
/-! ### dict(pairs) -/
def pairsD : List D → Option (List (Key × D))
  | [] => some []
  | .tup [k, v] :: t => (match keyD k with
    | some kk => (pairsD t).map ((kk, v) :: ·)
    | none => none)
  | _ => none
def dputs (kvs : List (Key × D)) : List (Key × D) := kvs.foldl (fun a kv => dput a kv.1 kv.2) []
theorem dputs_ok {K : PySem.W.Frag} {H : Hp} : ∀ {kvs : List (Key × D)} {ws : List (Key × V)} {acc : List (Key × D)} {as : List (Key × V)}, KVR K H kvs ws → KVR K H acc as → KVR K H (kvs.foldl (fun a kv => dput a kv.1 kv.2) acc) (mergeK as ws)
  | [], _, _, _, r0, r => by
    cases r0
    exact r
  | (k, d) :: t, _, _, _, r0, r => by
    cases r0 with
    | @cons _ q _ _ h hs =>
      obtain ⟨k', v⟩ := q
      obtain ⟨e, rv⟩ := h
      have e : k = k' := e
      subst e
      have w := dputs_ok (kvs := t) hs (dput_ok r k rv)
      exact w
theorem pairsD_ok {K : PySem.W.Frag} {H : Hp} : ∀ {ds : List D} {vs : List V} {kvs : List (Key × D)}, VRs K H ds vs → pairsD ds = some kvs → ∃ (ps : List Addr) (ws : List (Key × V)), vs = ps.map V.ref ∧ Paired (fun p kv => SqT K H p [kV kv.1, kv.2]) ps ws ∧ KVR K H kvs ws
  | [], vs, kvs, r, e => by
    cases r
    cases e
    exact ⟨[], [], rfl, .nil, .nil⟩
  | d :: t, vs, kvs, r, e => by
    cases r with
    | cons rd rt =>
      unfold pairsD at e
      split at e
      · rename_i h; cases h
      · rename_i k v t' h
        cases h
        cases ek : keyD k with
        | none => rw [ek] at e; cases e
        | some kk =>
          rw [ek] at e
          dsimp only at e
          cases ep : pairsD t with
          | none => rw [ep] at e; cases e
          | some rest =>
            rw [ep] at e
            cases e
            obtain ⟨ps, ws, e1, e2, e3⟩ := pairsD_ok rt ep
            cases rd with
            | tup tr rr =>
              obtain ⟨a, b, rfl, ra, rb⟩ := vrs2 rr
              have := keyD_ok ra ek
              subst this
              exact ⟨_ :: ps, (kk, b) :: ws, by rw [e1]; rfl, .cons tr.sq e2, .cons ⟨rfl, rb⟩ e3⟩
      · cases e
def nDictP : NL := fun xs S Q => match xs with
  | [d] => (match lstOf S d with
    | some ds => (match pairsD ds with
      | some kvs => ∀ p, S p = none → Q (.ref p) (N.put S p (.dic (dputs kvs)))
      | none => False)
    | none => False)
  | _ => False
theorem callN_dictP {X : Cx} (hc : X.calm = true) : CallN X (.type "dict") nDictP := by
  refine ⟨_, call_dictP hc, fun xs S Q vs H Q' s r n k => ?_⟩
  unfold nDictP at n
  split at n
  · rename_i d
    obtain ⟨v, rfl, rv⟩ := vrs1 r
    split at n
    · rename_i ds e1
      obtain ⟨p, us, rfl, h1, h2⟩ := lstOf_ok s rv e1
      split at n
      · rename_i kvs e2
        obtain ⟨ps, ws, rfl, g1, g2⟩ := pairsD_ok h2 e2
        refine ⟨p, ps, ws, rfl, h1, g1, fun a na => ?_⟩
        have x : HExt H (upd H a (.dK (mergeK [] ws))) := .new na
        have o : OR X.K (upd H a (.dK (mergeK [] ws))) a (.dic (dputs kvs)) := ⟨_, upd_same, KVR.ext x (dputs_ok g2 .nil)⟩
        exact k _ _ _ _ x (s.put x o) (.ref a) (n a (s.fresh na))
      · exact n.elim
    · exact n.elim
  · exact n.elim
omit [TabList] in
theorem u_nDictP (d : D) (S : Sto) (Q : NQ) : nDictP [d] S Q = (match lstOf S d with
    | some ds => (match pairsD ds with
      | some kvs => ∀ p, S p = none → Q (.ref p) (N.put S p (.dic (dputs kvs)))
      | none => False)
    | none => False) := id rfl
end N

set_option Elab.async false
set_option linter.all false
set_option maxRecDepth 100000
set_option maxHeartbeats 4000000
namespace N
open PySem PySem.Spec PyProof.Rows L2
variable [TabList]
/-! ### list(range(a, b)) -/
omit [TabList] in
theorem vrs_rg {K : PySem.W.Frag} {H : Hp} (lo : Int) : ∀ l : List Nat, VRs K H (l.map fun (i : Nat) => D.int (lo + (i : Int))) (l.map fun (i : Nat) => V.int (lo + (i : Int)))
  | [] => .nil
  | i :: r => .cons (.int _) (vrs_rg lo r)
def mListRg2 (ma mb : NE) : NE := fun e S Q => ma e S fun x S1 => mb e S1 fun y S2 => match x, y with
  | .int i, .int j => (RngOk i ∧ RngOk j ∧ j - i ≤ 10000000) ∧ ∀ p, S2 p = none → Q (.ref p) (N.put S2 p (.lst (rangeD i (j - i).toNat)))
  | _, _ => False
section
variable {X : Cx} {H0 : Hp} {w : NW} {a b o : Expr} {ma mb mo : NE} {pos : Pos}
theorem je_listRg2 {p p2 pos2 : Pos} (hc : X.calm = true) (hm : X.mg "list" = none) (hr : X.mg "range" = none) (ha : JE X H0 a ma) (hb : JE X H0 b mb) (hg : Gl X "list" := by rfl) (hg2 : Gl X "range" := by rfl)
    (na : starEach [a, b] X.env = (false, eval a X.env) :: starEach [b] X.env := by rfl) (nb : starEach [b] X.env = (false, eval b X.env) :: starEach [] X.env := by rfl) (hp : (backTo pos2 (starEach [b] X.env)).any (·.1) = false := by rfl)
    (nl : starEach [Expr.Call (.Name "range" p2) [a, b] [] pos2] X.env = (false, eval (Expr.Call (.Name "range" p2) [a, b] [] pos2) X.env) :: starEach [] X.env := by rfl) :
    JE X H0 (.Call (.Name "list" p) [.Call (.Name "range" p2) [a, b] [] pos2] [] pos) (mListRg2 ma mb) := by
  refine (pe_listRg hc hg hm (prg_2 hg2 hr ha hb na nb hp) nl).imq fun σ H Q ⟨e, S, Q', A, m, k⟩ => ?_
  refine ⟨e, S, _, A, m, fun x S1 vx H1 x1 s1 rx q => ⟨e, S1, _, A.next x1 s1, q, fun y S2 vy H2 x2 s2 ry n => ?_⟩⟩
  split at n
  · rename_i i j
    cases rx
    cases ry
    obtain ⟨⟨r1, r2, r3⟩, n⟩ := n
    unfold RngOk at r1 r2
    refine ⟨i, j, rfl, rfl, ⟨r1.1, r1.2, r2.1, r2.2, by omega⟩, fun p np => ?_⟩
    exact k _ _ _ _ ((x1.trans x2).trans (.new np)) (lst_ok s2 np (vrs_rg i _)) (.ref p) (n p (s2.fresh np))
  · exact n.elim
end
omit [TabList] in
theorem u_mListRg2 (ma mb : NE) (e : Env) (S : Sto) (Q : NQ) : mListRg2 ma mb e S Q = (ma e S fun x S1 => mb e S1 fun y S2 => match x, y with
  | .int i, .int j => (RngOk i ∧ RngOk j ∧ j - i ≤ 10000000) ∧ ∀ p, S2 p = none → Q (.ref p) (N.put S2 p (.lst (rangeD i (j - i).toNat)))
  | _, _ => False) := id rfl
end N

set_option Elab.async false
set_option linter.all false
set_option maxRecDepth 100000
set_option maxHeartbeats 4000000
namespace N
open PySem PySem.Spec PyProof.Rows L2
variable [TabList]
/-! ### a caught refusal's line -/
structure XfN (K : PySem.W.Frag) (c f : Str) : Prop where
  x : XfC K (He.ga K c)
  no : PySem.W.findIn K (.ref (He.ga K c)) f = some none
def xfW (K : PySem.W.Frag) (c f : Str) : Bool := xfB K (He.ga K c) && He.eqO (PySem.W.findIn K (.ref (He.ga K c)) f) (some none)
omit [TabList] in
theorem xfW_ok {K : PySem.W.Frag} {c f : Str} (h : xfW K c f = true) : XfN K c f :=
  ⟨xfB_ok (He.ba h).1, He.eqO_ok (He.ba h).2⟩
def tXe (C : Addr) (f : Str) (te : TE) : TE := fun σ H Q => te σ H fun x H1 => ∃ (a dd : Addr) (fs : List (Str × V)) (v : V), x = .ref a ∧ H1 a = some (.ext (excP a (.ref C) (some dd))) ∧ H1 dd = some (.xd fs) ∧ fs.lookup f = some v ∧ Q v H1
section
variable {X : Cx} {H0 : Hp} {w : NW} {e a o : Expr} {te : TE} {ma mo : NE} {mr : NA} {es : List Expr} {pos : Pos}
theorem pe_xe {C : Addr} {n : Str} (T : XfC X.K C) (hno : PySem.W.findIn X.K (.ref C) n = some none) (he : PE X e te) (hb : attributeBase e n X.env (eval e X.env) = eval e X.env := by rfl) : PE X (.Attribute e n pos) (tXe C n te) := by
  refine ⟨fun pins s σ H Q I h => ?_⟩
  refine attr_of hb (thn (he.run pins s σ H _ I h) fun u s1 hh => ?_)
  obtain ⟨x, H1, I1, rx, a, dd, fs, v, ex, e1, ea, l, q⟩ := hh
  subst ex
  obtain rfl : u = Value.ref a := rx
  have h1 : ObjOk X.prog X.w H1 s1.heap a (.ext (excP a (.ref C) (some dd))) := I1.hok a _ e1
  obtain ⟨⟨oe, vs, ha, hz, hd⟩, _, _⟩ := h1
  have hx : ObjOk X.prog X.w H1 s1.heap dd (.xd fs) := I1.hok dd _ ea
  obtain ⟨mA, hns, hr⟩ := hx
  obtain ⟨od, ho, hl⟩ := lookIn_ns hns
  obtain ⟨u, hu, ru⟩ := RelO.some_of (v := v) (o := mA n) (by rw [← l]; exact hr n)
  have J : PySem.W.InstAt s1.heap a oe C (some od) := ⟨ha, hz.1, by unfold PySem.W.notCls; rw [hd] <;> rfl, by rw [hz.2]; exact ho⟩
  exact HandSPX.exc_get I1.kIn J T.ga T.gg T.exC (PySem.W.findObj_own T.hdC hno rfl (by rw [hl, hu])) (handed_of ru) ⟨v, H1, I1.tok _, ru, q⟩
/-- the field f of a caught c -/
def nXf (c f : Str) : D → Sto → NQ → Prop := fun x S Q => match x with
  | .ref a => (match S a with
    | some (.exc c' (some d)) => c' = c ∧ (match S d with
      | some (.xd fs) => (match fs.lookup f with
        | some v => Q v S
        | none => False)
      | _ => False)
    | _ => False)
  | _ => False
theorem je_xf {c f : Str} (T : XfN X.K c f) (he : JE X H0 a ma) (hb : attributeBase a f X.env (eval a X.env) = eval a X.env := by rfl) : JE X H0 (.Attribute a f pos) (mUn (nXf c f) ma) := by
  refine (pe_xe T.x T.no he hb).imq fun σ H Q h => ?_
  obtain ⟨e, S, Q', A, m, k⟩ := h
  refine ⟨e, S, _, A, m, fun x S1 vx H1 x1 s1 rx n => ?_⟩
  unfold nXf at n
  split at n
  · rename_i p
    cases rx
    split at n
    · rename_i c' d e1
      obtain ⟨rfl, n⟩ := n
      have h1 := s1 p _ e1
      split at n
      · rename_i fs e2
        obtain ⟨ws, h2, r2⟩ := s1 d _ e2
        split at n
        · rename_i y ey
          obtain ⟨v, h3, h4⟩ := (KVR.look (f := f) r2).1 y ey
          exact ⟨p, d, ws, v, rfl, h1, h2, h3, k _ _ _ _ x1 s1 h4 n⟩
        · exact n.elim
      · exact n.elim
    · exact n.elim
  · exact n.elim
/-! ### xs.insert(i, y) -/
def nInsert : D → List D → Sto → NQ → Prop := fun x ys S Q => match x, ys with
  | .ref p, [.int i, y] => (match S p with
    | some (.lst ds) => (ds.length < sizeLine ∧ 0 ≤ i ∧ i < 2 ^ 63) ∧ Q .non (N.put S p (.lst (ds.take i.toNat ++ [y] ++ ds.drop i.toNat)))
    | _ => False)
  | _, _ => False
theorem opM_insert {K : PySem.W.Frag} : OpM K (fun x vs H Q => ∃ (l : Addr) (xs : List V) (i : Int) (y : V), x = .ref l ∧ vs = [.int i, y] ∧ H l = some (.lst xs) ∧ xs.length < sizeLine ∧ 0 ≤ i ∧ i < 2 ^ 63 ∧
    Q .non (upd H l (.lst (xs.take i.toNat ++ [y] ++ xs.drop i.toNat)))) nInsert := fun x ys S Q vx vs H Q' s rx rs n k => by
  unfold nInsert at n
  split at n
  · rename_i p i y
    cases rx
    obtain ⟨v0, v1, rfl, r0, r1⟩ : ∃ v0 v1, vs = [v0, v1] ∧ VR K H (.int i) v0 ∧ VR K H y v1 := by
      cases rs with
      | cons r0 t => cases t with
        | cons r1 t2 => cases t2; exact ⟨_, _, rfl, r0, r1⟩
    cases r0
    split at n
    · rename_i ds e1
      obtain ⟨ws, g1, rr⟩ := s.lst e1
      obtain ⟨⟨n1, n2, n3⟩, q⟩ := n
      have x : HExt H (upd H p (.lst (ws.take i.toNat ++ [v1] ++ ws.drop i.toNat))) := .upd g1 True.intro
      exact ⟨p, ws, i, v1, rfl, rfl, g1, by rw [← rr.length]; exact n1, n2, n3, k _ _ _ _ x (s.put (o := .lst (ds.take i.toNat ++ [y] ++ ds.drop i.toNat)) x ⟨_, upd_same, (((rr.take _).append (.cons r1 .nil)).append (rr.drop _)).ext x⟩) .non q⟩
    · exact n.elim
  · exact n.elim
theorem je_insert {apos : Pos} (ho : JE X H0 o mo) (ha : JA X H0 (a :: es) mr)
    (hbase : attributeBase o "insert" X.env (eval o X.env) = eval o X.env := by rfl)
    (hfew : ((backTo pos (starEach (a :: es) X.env)).all (fun x => !x.1) && (backToKw pos (keywordEach [] X.env)).all (fun x => x.1.isSome)
      && decide ((a :: es).length + ([] : List Keyword).length + (if ([] : List Keyword).isEmpty then 0 else 1) < 30)) = true := by rfl)
    (hline : (apos.endLine == pos.line) = true := by rfl) (hs : starEach (a :: es) X.env = (false, eval a X.env) :: starEach es X.env := by rfl) (hplain : (backTo pos (starEach es X.env)).any (·.1) = false := by rfl) :
    JE X H0 (.Call (.Attribute o "insert" apos) (a :: es) [] pos) (mLm nInsert mo mr) :=
  je_lm PySem.F.slot_list_insert PySem.F.type_list_insert mt_insert opM_insert ho ha hbase hfew hline hs hplain
end
/-! ### one token out: text.replace -/
theorem PET.imq {X : Cx} {e : Expr} {t t' : TE} (h : PET X e t) (i : ∀ σ H Q, t' σ H Q → t σ H Q) : PET X e t' := fun pins s σ H Q h0 I q => h pins s σ H Q h0 I (i _ _ _ q)
theorem PAT.imq {X : Cx} {e : List Expr} {t t' : TA} (h : PAT X e t) (i : ∀ σ H Q, t' σ H Q → t σ H Q) : PAT X e t' := fun p pins s σ H Q h0 I q => h p pins s σ H Q h0 I (i _ _ _ q)
theorem PSsT.imq {X : Cx} {e : List Stmt} {t t' : TS} (h : PSsT X e t) (i : ∀ D σ H, t' D σ H → t D σ H) : PSsT X e t' := fun pins s σ H D h0 I q => h pins s σ H D h0 I (i _ _ _ q)
abbrev JET (X : Cx) (H0 : Hp) (e : Expr) (m : NE) : Prop := PET X e (lE X.K H0 m)
abbrev JAT (X : Cx) (H0 : Hp) (es : List Expr) (m : NA) : Prop := PAT X es (lA X.K H0 m)
abbrev JST (X : Cx) (H0 : Hp) (st : Stmt) (m : NS) : Prop := PST X st (lS X.K H0 m)
abbrev JSsT (X : Cx) (H0 : Hp) (st : List Stmt) (m : NS) : Prop := PSsT X st (lS X.K H0 m)
/-- o.replace(y, z), y and z written -/
def nRepl (y z : Str) : D → Sto → NQ → Prop := fun x S Q => match x with
  | .str t => t.length + (t.length + 1) * z.length ≤ 16777216 ∧ Q (.str (Txt.replace t y z)) S
  | _ => False
section
variable {X : Cx} {H0 : Hp} {w : NW} {e a o : Expr} {te : TE} {ma mo : NE} {mr : NA} {es : List Expr} {pos : Pos} {t u : NS} {st : Stmt} {rest : List Stmt}
theorem jet_of (h : JE X H0 a ma) : JET X H0 a ma := fun pins s σ H Q _ I q => h.run pins s σ H Q I q
theorem jst_of (h : JS X H0 st t) : JST X H0 st t := fun pins s σ H Q _ I q => h.run pins s σ H Q I q
theorem jsst_of (h : JSs X H0 rest t) : JSsT X H0 rest t := fun pins s σ H Q _ I q => h.run pins s σ H Q I q
theorem jet_repl {y z : Str} {j k : Nat} {c0 c1 apos : Pos} (ho : JET X H0 o mo) (hyz : (y == z) = false := by decide)
    (hst : starEach [.Constant (.str y) j c0, .Constant (.str z) k c1] X.env = [(false, eval (.Constant (.str y) j c0) X.env), (false, eval (.Constant (.str z) k c1) X.env)] := by rfl)
    (hbase : attributeBase o "replace" X.env (eval o X.env) = eval o X.env := by rfl) (hline : (apos.endLine == pos.line) = true := by rfl) :
    JET X H0 (.Call (.Attribute o "replace" apos) [.Constant (.str y) j c0, .Constant (.str z) k c1] [] pos) (mUn (nRepl y z) mo) := by
  refine PET.imq (CwR.pet_replT ho hyz hst hbase hline) fun σ H Q ⟨e, S, Q', A, m, kk⟩ => ?_
  refine ⟨e, S, _, A, m, fun x S1 vx H1 x1 s1 rx n => ?_⟩
  unfold nRepl at n
  split at n
  · cases rx
    exact ⟨_, rfl, n.1, kk _ _ _ _ x1 s1 (.str _) n.2⟩
  · exact n.elim
theorem jat_nil : JAT X H0 [] mNil := by
  refine PAT.imq pat_nil fun σ H Q h => ?_
  obtain ⟨e, S, Q', A, m, k⟩ := h
  exact k [] S [] H (.refl H) A.s .nil m
theorem jat_cons (ha : JET X H0 a ma) (hr : JAT X H0 es mr) (hs : starEach (a :: es) X.env = (false, eval a X.env) :: starEach es X.env := by rfl) : JAT X H0 (a :: es) (mCons ma mr) := by
  refine PAT.imq (pat_cons ha hr hs) fun σ H Q h => ?_
  obtain ⟨e, S, Q', A, m, k⟩ := h
  refine ⟨e, S, _, A, m, fun x S1 vx H1 x1 s1 rx m1 => ?_⟩
  exact ⟨e, S1, _, A.next x1 s1, m1, fun ys S2 vs H2 x2 s2 rs m2 => k _ S2 _ H2 (x1.trans x2) s2 (.cons (rx.ext x2) rs) m2⟩
theorem jet_lst (h : JAT X H0 es mr) : JET X H0 (.List es pos) (mLst mr) := by
  refine PET.imq (pet_lst h) fun σ H Q h => ?_
  obtain ⟨e, S, Q', A, m, k⟩ := h
  refine ⟨e, S, _, A, m, fun ds S1 vs H1 x1 s1 rs q => ?_⟩
  refine ⟨by rw [← rs.length]; exact q.1, fun p np => ?_⟩
  exact k _ _ _ _ (x1.trans (.new np)) (lst_ok s1 np rs) (.ref p) (q.2 p (s1.fresh np))
theorem pst_set {i : Nat} {x : Str} {e : Expr} {te : TE} {pos' : Pos} (hN : X.N.Nodup) (hi : X.N[i]? = some x) (hx : Loc X.env.scope x) (he : PET X e te) (hs : swapsWith e (some (.Name x pos')) pos.line X.env = pure false := by rfl) (hf : X.fn x = true ∨ X.env.scope.names.lookup x = some .local := by first | exact .inl rfl | exact .inr rfl | assumption) :
    PST X (.Assign [.Name x pos'] e pos) (tAsg te (gName i)) := by
  intro pins s σ H D h0 I h
  refine wpAny_Assign_Name (thn (he pins s σ H _ h0 I h) fun v s1 ⟨y, H1, I1, r1, q1⟩ => ?_) hs
  exact store_ok I1 hN hi hx r1 (fun s2 I2 => ⟨_, H1, I2, q1⟩) hf
theorem jst_set {i : Nat} {x : Str} {pos' : Pos} (hN : X.N.Nodup) (he : JET X H0 a ma) (hi : X.N[i]? = some x := by rfl) (hx : Loc X.env.scope x := by first | exact Or.inl rfl | exact Or.inr rfl) (hs : swapsWith a (some (.Name x pos')) pos.line X.env = pure false := by rfl) (hf : X.fn x = true ∨ X.env.scope.names.lookup x = some .local := by first | exact .inl rfl | exact .inr rfl) :
    JST X H0 (.Assign [.Name x pos'] a pos) (sSet i ma) := fun pins s σ H D h0 I h => by
  obtain ⟨e, S, D', A, m, k⟩ := h
  exact pst_set hN hi hx he hs hf pins s σ H D h0 I ⟨e, S, _, A, m, fun d S1 v H1 x s r q => k.nx _ _ _ _ x ((A.next x s).set r i) q⟩
theorem jst_ret (h : JET X H0 a ma) : JST X H0 (.Return (some a) pos) (sRet ma) := fun pins s σ H D h0 I h1 => by
  obtain ⟨e, S, D', A, m, k⟩ := h1
  exact CwR.pst_ret h pins s σ H D h0 I ⟨e, S, _, A, m, fun d S1 v H1 x s r q => k.rt d S1 v H1 x s r q⟩
theorem jsst_cons (h1 : JST X H0 st t) (h2 : JSsT X H0 rest u) : JSsT X H0 (st :: rest) (sSeq t u) :=
  PSsT.imq (psst_cons h1 h2) fun D σ H ⟨e, S, D', A, m, k⟩ => ⟨e, S, _, A, m, ⟨fun e' S' σ' H' x A' q => ⟨e', S', D', A', q, k.ext x⟩, k.rt, k.bk, k.ct⟩⟩
theorem jsst_nil : JSsT X H0 [] sNext := fun pins s σ H D _ I h => by
  obtain ⟨e, S, D', A, m, k⟩ := h
  exact CwR.psst_nil pins s σ H D ‹_› I (k.nx e S σ H (.refl H) A m)
theorem jsst_one (h : JST X H0 st t) : JSsT X H0 [st] t := CwR.psst_one h
/-- x = 'text' ahead: behind it a token is out -/
theorem jss_strT {i j : Nat} {x c : Str} {cpos pos' : Pos} (hN : X.N.Nodup) (h2 : JSsT X H0 rest u) (hi : X.N[i]? = some x := by rfl) (hx : Loc X.env.scope x := by first | exact Or.inl rfl | exact Or.inr rfl)
    (hs : swapsWith (.Constant (.str c) j cpos) (some (.Name x pos')) pos.line X.env = pure false := by rfl) (hf : X.fn x = true ∨ X.env.scope.names.lookup x = some .local := by first | exact .inl rfl | exact .inr rfl) :
    JSs X H0 (.Assign [.Name x pos'] (.Constant (.str c) j cpos) pos :: rest) (sSeq (sSet i (mC (.str c))) u) :=
  (pss_str hN hi hx h2 hs hf).imq fun D σ H ⟨e, S, D', A, m, k⟩ => ⟨e.set i (some (.str c)), S, D', A.set (.str c) i, m, k⟩
end
omit [TabList] in
theorem u_nXf (c f : Str) (a : Addr) (S : Sto) (Q : NQ) : nXf c f (.ref a) S Q = (match S a with
    | some (.exc c' (some d)) => c' = c ∧ (match S d with
      | some (.xd fs) => (match fs.lookup f with
        | some v => Q v S
        | none => False)
      | _ => False)
    | _ => False) := id rfl
omit [TabList] in
theorem u_nInsert (p : Addr) (i : Int) (y : D) (S : Sto) (Q : NQ) : nInsert (.ref p) [.int i, y] S Q = (match S p with
    | some (.lst ds) => (ds.length < sizeLine ∧ 0 ≤ i ∧ i < 2 ^ 63) ∧ Q .non (N.put S p (.lst (ds.take i.toNat ++ [y] ++ ds.drop i.toNat)))
    | _ => False) := id rfl
omit [TabList] in
theorem u_nRepl (y z t : Str) (S : Sto) (Q : NQ) : nRepl y z (.str t) S Q = (t.length + (t.length + 1) * z.length ≤ 16777216 ∧ Q (.str (Txt.replace t y z)) S) := id rfl
end N

set_option Elab.async false
set_option linter.all false
set_option maxRecDepth 100000
set_option maxHeartbeats 4000000
/-! sorted of pairs of a number and a text: some arrangement of them -/
namespace N
open PySem PySem.Spec PyProof.Rows L2
section
open Srt
variable {prog : Program} {w : World} {A : Around} {E : Value → Shared → Prop} {s : Shared}
/-- v is a tuple of a number and a text -/
def IsPS (h : Heap) (v : Value) (x : Int) (y : Str) : Prop := ∃ a o t u n, v = .ref a ∧ h.get? a = some o ∧ o.cls = .type "tuple" ∧ o.data = .seq #[.int x t, .str y u] n
theorem IsPS.keeps {h h' : Heap} {v : Value} {x : Int} {y : Str} (p : IsPS h v x y) (k : ∀ b o, h.get? b = some o → o.cls = .type "tuple" → h'.get? b = some o) : IsPS h' v x y := by
  obtain ⟨a, o, t, u, n, e, ho, hc, hd⟩ := p
  exact ⟨a, o, t, u, n, e, k _ _ ho hc, hc, hd⟩
theorem ps_tot {vs : List Value} (hp : ∀ v ∈ vs, ∃ x y, IsPS s.heap v x y) : Tot prog w A s (tuples' true) (fun p => p.1 ∈ vs) := by
  intro p q hm hm'
  obtain ⟨x, y, a, o, t, u, n, e, ho, hc, hd⟩ := hp _ hm
  obtain ⟨x', y', a', o', t', u', n', e', ho', hc', hd'⟩ := hp _ hm'
  rw [e, e']
  refine ⟨if x = x' then (if y = y' then false else decide (y.cps.toList < y'.cps.toList)) else decide (x < x'), ?_⟩
  refine PySem.W.kat_lt ho hd ho' hd' ?_
  show PySem.W.KatLex prog w A true (decide (2 < 2)) _ [(.int x t, .int x' t'), (.str y u, .str y' u')] 0 s
  refine PySem.W.kat_cons (SeqAt.EqAt.int_int x t x' t' prog w _ _ ?_)
  refine PySem.W.kat_go (fun e1 => ?_) (fun e1 => ?_)
  · have ex : x = x' := by simpa using e1
    refine PySem.W.kat_yes (PySem.W.kat_cons (SeqAt.EqAt.str_str y u y' u' prog w _ _ ?_))
    refine PySem.W.kat_go (fun e2 => ?_) (fun e2 => ?_)
    · have ey : y = y' := by simpa using e2
      have e3 : (if x = x' then (if y = y' then false else decide (y.cps.toList < y'.cps.toList)) else decide (x < x')) = false := by rw [if_pos ex, if_pos ey]
      exact PySem.W.kat_yes (PySem.W.kat_nil ⟨rfl, e3.symm⟩)
    · have ey : ¬ y = y' := by simpa using e2
      have e3 : (if x = x' then (if y = y' then false else decide (y.cps.toList < y'.cps.toList)) else decide (x < x')) = decide (y.cps.toList < y'.cps.toList) := by rw [if_pos ex, if_neg ey]
      refine PySem.W.kat_no (PySem.W.kat_one _ _ (PyProof.Rows.lt_str ?_))
      exact (show s = s ∧ decide (y.cps.toList < y'.cps.toList) = (if x = x' then (if y = y' then false else decide (y.cps.toList < y'.cps.toList)) else decide (x < x')) from ⟨rfl, e3.symm⟩)
  · have ex : ¬ x = x' := by simpa using e1
    have e3 : (if x = x' then (if y = y' then false else decide (y.cps.toList < y'.cps.toList)) else decide (x < x')) = decide (x < x') := by rw [if_neg ex]
    exact PySem.W.kat_no (oneLt_int ⟨rfl, e3.symm⟩)
theorem ps_firsts {h : Heap} : ∀ {vs : List Value}, (∀ v ∈ vs, ∃ x y, IsPS h v x y) → ∃ fs : List Value, PySem.W.KatTups h vs fs ∧ fs.length = vs.length ∧ ∀ f ∈ fs, ∃ x t, f = Value.int x t
  | [], _ => ⟨[], PySem.W.KatTups.nil, rfl, fun _ hm => by simp at hm⟩
  | v :: vs, hp => by
    obtain ⟨fs, h1, h2, h3⟩ := ps_firsts (vs := vs) fun v' hm => hp v' (List.mem_cons_of_mem _ hm)
    obtain ⟨x, y, a, o, t, u, n, e, ho, hc, hd⟩ := hp v (List.mem_cons_self ..)
    subst e
    refine ⟨.int x t :: fs, PySem.W.KatTups.cons ho hc hd rfl h1, by rw [List.length_cons, List.length_cons, h2], fun f hm => ?_⟩
    rcases List.mem_cons.mp hm with rfl | hm
    · exact ⟨x, t, rfl⟩
    · exact h3 f hm
theorem ps_sortable {a : Addr} {vs : List Value} (h0 : 0 < vs.length) (hp : ∀ v ∈ vs, ∃ x y, IsPS s.heap v x y) (ha : ∀ o, s.heap.get? a = some o → o.cls ≠ .type "tuple") : Sortable prog w A s a vs := by
  intro h' keep
  have hp' : ∀ v ∈ vs, ∃ x y, IsPS h' v x y := fun v hm => by
    obtain ⟨x, y, p⟩ := hp v hm
    exact ⟨x, y, p.keeps fun b o e c => keep b o (fun z => by subst z; exact ha o e c) e⟩
  obtain ⟨fs, h1, h2, h3⟩ := ps_firsts hp'
  refine ⟨tuples' true, fun Q E hq => ?_, ps_tot hp'⟩
  refine PySem.W.kat_kind (T := .type "int") h1 (by omega) (fun f hm => ?_) (by rfl) ?_
  · obtain ⟨x, t, rfl⟩ := h3 f hm
    exact PySem.W.Looks.now
  · have e : (Value.type "int" != Value.type "tuple") = true := by first | decide +kernel | rfl | decide
    rw [e]
    exact hq
theorem sorted_ps {l : Addr} {vs : List Value} {Q : Value → Shared → Prop} (hl : s.heap.IsList l vs.toArray) (hz : vs.length ≤ sizeLine) (hp : ∀ v ∈ vs, ∃ x y, IsPS s.heap v x y)
    (h : ∀ (h' : Heap) (d : Addr) (out : List Value), out.Perm vs → (∀ b o, s.heap.get? b = some o → h'.get? b = some o) → s.heap.objs.size ≤ d → (∃ n, h'.get? d = some (seqObj "list" out.toArray n)) → Q (.ref d) { s with heap := h' }) :
    wpAny (model prog w) A (call (.builtin "sorted") [.ref l]) Q E s := by
  refine sorted_any hl hz (fun h2 h₁ a ha k => ?_) fun out ho => ?_
  · refine ps_sortable (s := { s with heap := h₁ }) (by omega) (fun v hm => ?_) fun o e => ?_
    · obtain ⟨x, y, p⟩ := hp v hm
      exact ⟨x, y, p.keeps fun b o e _ => (k b o e).2⟩
    · have e' : some o = some (seqObj "list" vs.toArray 0) := e.symm.trans ha
      cases e'
      intro c
      exact absurd (Value.type.inj c) (by decide)
  · exact h _ _ out ho (fun b o e => sortedAll_old e) (Nat.le_succ _) (sortedAll_at s.heap vs out.toArray)
end
variable [TabList]
section
variable {X : Cx}
def rSortedQ (K : PySem.W.Frag) : List V → Hp → VK → Prop := fun vs H Q => ∃ a xs, vs = [V.ref a] ∧ SqL K H a xs ∧ (∀ x ∈ xs, ∃ t i j, x = V.ref t ∧ TupR K H t [.int i, .str j]) ∧
  ∀ ys p, ys.Perm xs → H p = none → Q (.ref p) (upd H p (.lst ys))
theorem cr_sortedQ : CallR X (.builtin "sorted") (rSortedQ X.K) := by
  intro pins s σ H vs us Q I r h
  obtain ⟨a, xs, rfl, hs, hx, q⟩ := h
  obtain ⟨its, rv, hl, hz⟩ := I.list hs
  obtain ⟨u, rfl, ru⟩ := vals1 r
  obtain rfl : u = Value.ref a := ru
  obtain ⟨e1, e2⟩ := refs_back rv fun x m => by
    obtain ⟨t, _, _, e, _⟩ := hx x m
    exact ⟨t, e⟩
  refine sorted_ps hl.isList (by rw [← rv.length]; exact hz) (fun v hv => ?_) fun h' d out hp k hd hn => ?_
  · obtain ⟨t, rfl⟩ := e2 v hv
    have hm : V.ref t ∈ xs := by rw [e1]; exact List.mem_map.mpr ⟨_, hv, rfl⟩
    obtain ⟨t', i, j, e, ht⟩ := hx _ hm
    cases e
    obtain ⟨its2, r2, ⟨o, ho, hc, n, hd⟩, _⟩ := I.tuple ht.sq
    obtain ⟨u1, u2, e3, ri, rj⟩ := vals2 r2
    subst e3
    obtain ⟨t1, rfl⟩ := ri
    obtain ⟨t2, rfl⟩ := rj
    exact ⟨i, j, t, o, t1, t2, n, rfl, ho, hc, hd⟩
  · have h3 : ∀ u ∈ out, ∃ a, u = Value.ref a := fun u hu => e2 u (hp.mem_iff.mp hu)
    obtain ⟨n, hn⟩ := hn
    refine ⟨.ref d, upd H d (.lst (out.map backV)), I.laid (t' := s.toks) k hd ⟨?_, out, n, vals_back h3, hn⟩, rfl, q _ d ?_ (I.hok.fresh hd)⟩
    · rw [List.length_map, hp.length_eq, ← rv.length]; exact hz
    · rw [e1]; exact hp.map backV
theorem vrs_perm {K : PySem.W.Frag} {H : Hp} {ys xs : List V} (hp : ys.Perm xs) : ∀ {ds : List D}, VRs K H ds xs → ∃ es : List D, es.Perm ds ∧ VRs K H es ys := by
  induction hp with
  | nil => intro ds h; cases h; exact ⟨[], .nil, .nil⟩
  | cons x _ ih =>
    intro ds h
    cases h with
    | cons r t =>
      obtain ⟨es, p, q⟩ := ih t
      exact ⟨_, p.cons _, .cons r q⟩
  | swap x y l =>
    intro ds h
    cases h with
    | cons r t => cases t with
      | cons r2 t2 => exact ⟨_, List.Perm.swap .., .cons r2 (.cons r t2)⟩
  | trans _ _ ih1 ih2 =>
    intro ds h
    obtain ⟨es, p, q⟩ := ih2 h
    obtain ⟨fs, p2, q2⟩ := ih1 q
    exact ⟨fs, p2.trans p, q2⟩
/-- sorted(xs), xs a list of pairs of a number and a text: a new list of the same pairs, in some order -/
def nSortQ : NL := fun xs S Q => match xs with
  | [d] => (match lstOf S d with
    | some ds => (∀ x ∈ ds, ∃ i z, x = D.tup [.int i, .str z]) ∧ ∀ p es, es.Perm ds → S p = none → Q (.ref p) (N.put S p (.lst es))
    | none => False)
  | _ => False
theorem vrs_mem {K : PySem.W.Frag} {H : Hp} {v : V} : ∀ {ds : List D} {vs : List V}, VRs K H ds vs → v ∈ vs → ∃ d ∈ ds, VR K H d v
  | _, _, .nil, h => by cases h
  | _, _, .cons r t, h => by
    rcases List.mem_cons.mp h with rfl | h
    · exact ⟨_, by simp, r⟩
    · obtain ⟨d, h1, h2⟩ := vrs_mem t h
      exact ⟨d, by simp [h1], h2⟩
theorem callN_sortQ : CallN X (.builtin "sorted") nSortQ := ⟨_, cr_sortedQ, fun xs S Q vs H Q' s r n k => by
  unfold nSortQ at n
  split at n
  · rename_i d
    obtain ⟨v, rfl, rv⟩ := vrs1 r
    split at n
    · rename_i ds e1
      obtain ⟨p, ws, rfl, h1, h2⟩ := lstOf_ok s rv e1
      refine ⟨p, ws, rfl, h1, fun x hx => ?_, fun ys q hy nq => ?_⟩
      · obtain ⟨d, hd, rd⟩ := vrs_mem h2 hx
        obtain ⟨i, z, rfl⟩ := n.1 d hd
        cases rd with
        | tup tr rr =>
          obtain ⟨v1, v2, rfl, r1, r2⟩ := vrs2 rr
          cases r1
          cases r2
          exact ⟨_, i, z, rfl, tr⟩
      · obtain ⟨es, pe, re⟩ := vrs_perm hy h2
        exact k _ _ _ _ (.new nq) (lst_ok s nq re) (.ref q) (n.2 q es pe (s.fresh nq))
    · exact n.elim
  · exact n.elim⟩
/-! ### repr of a number -/
def nRepI : NL := fun xs S Q => match xs with
  | [.int i] => i.natAbs < 2 ^ 1900 ∧ Q (.str (toString i)) S
  | _ => False
theorem callN_repI : CallN X (.builtin "repr") nRepI := by
  refine ⟨_, SkE.call_repr_int, fun xs S Q vs H Q' s r n k => ?_⟩
  unfold nRepI at n
  split at n
  · rename_i i
    obtain ⟨v, rfl, r1⟩ := vrs1 r
    cases r1
    exact ⟨i, rfl, Nat.lt_of_lt_of_le (PySem.Flt.log2_lt_of (by decide) n.1) (by decide), k _ _ _ _ (.refl H) s (.str _) n.2⟩
  · exact n.elim
end
omit [TabList] in
theorem u_nRepI (d : D) (S : Sto) (Q : NQ) : nRepI [d] S Q = (match d with
    | .int i => i.natAbs < 2 ^ 1900 ∧ Q (.str (toString i)) S
    | _ => False) := by cases d <;> rfl
omit [TabList] in
theorem u_nSortQ (d : D) (S : Sto) (Q : NQ) : nSortQ [d] S Q = (match lstOf S d with
    | some ds => (∀ x ∈ ds, ∃ i z, x = D.tup [.int i, .str z]) ∧ ∀ p es, es.Perm ds → S p = none → Q (.ref p) (N.put S p (.lst es))
    | none => False) := id rfl
end N

set_option linter.all false
set_option maxRecDepth 100000
set_option maxHeartbeats 4000000
namespace N
open PySem L2
/-! ### for the plain law: words about stores -/
theorem ofString_inj {a b : String} : (Str.ofString a = Str.ofString b) = (a = b) := by
  refine propext ⟨fun h => ?_, fun h => by rw [h]⟩
  rw [Str.ofString_eq_toList, Str.ofString_eq_toList] at h
  have h1 : (a.toList.map Char.toNat).toArray = (b.toList.map Char.toNat).toArray := by injection h
  have h2 : a.toList.map Char.toNat = b.toList.map Char.toNat := by injection h1
  have inj : ∀ x y : Char, x.toNat = y.toNat → x = y := fun x y e => Char.toNat_inj.mp e
  have h3 : a.toList = b.toList := by
    have : ∀ (l m : List Char), l.map Char.toNat = m.map Char.toNat → l = m := by
      intro l
      induction l with
      | nil => intro m e; cases m with | nil => rfl | cons _ _ => cases e
      | cons x l ih =>
        intro m e
        cases m with
        | nil => cases e
        | cons y m =>
          simp only [List.map_cons, List.cons.injEq] at e
          rw [inj _ _ e.1, ih m e.2]
    exact this _ _ h2
  exact String.toList_inj.mp h3
theorem ofString_beq {a b : String} : (Str.ofString a == Str.ofString b) = (a == b) := by
  by_cases h : a = b
  · subst h; simp
  · have : ¬ Str.ofString a = Str.ofString b := by rw [ofString_inj]; exact h
    rw [beq_eq_false_iff_ne.mpr h, beq_eq_false_iff_ne.mpr this]
theorem put_if {S : Sto} {a b : Addr} {o : Ob} : put S a o b = if b = a then some o else S b := rfl
/-- all but what stands at A is as it was -/
def Upd (A : List Addr) (S S' : Sto) : Prop := ∀ a o, a ∉ A → S a = some o → S' a = some o
theorem Upd.refl {A : List Addr} {S : Sto} : Upd A S S := fun _ _ _ h => h
theorem Upd.trans {A : List Addr} {S S1 S2 : Sto} (h : Upd A S S1) (k : Upd A S1 S2) : Upd A S S2 := fun a o n e => k a o n (h a o n e)
theorem Upd.mono {A B : List Addr} {S S' : Sto} (h : Upd A S S') (k : ∀ a ∈ A, a ∈ B) : Upd B S S' := fun a o n e => h a o (fun z => n (k a z)) e
theorem Upd.new {A : List Addr} {S : Sto} {p : Addr} {o : Ob} (h : S p = none) : Upd A S (put S p o) := fun a u _ e => by
  rw [put_ne fun z => by rw [z, h] at e; cases e]; exact e
theorem Upd.at {A : List Addr} {S : Sto} {p : Addr} {o : Ob} (h : p ∈ A) : Upd A S (put S p o) := fun a u n e => by
  rw [put_ne fun z => n (by rw [z]; exact h)]; exact e
/-- nothing but new things -/
abbrev Keeps (S S' : Sto) : Prop := Upd [] S S'
theorem Keeps.up {A : List Addr} {S S' : Sto} (h : Keeps S S') : Upd A S S' := h.mono fun _ z => by cases z
theorem Upd.get {A : List Addr} {S S' : Sto} {a : Addr} {o : Ob} (h : Upd A S S') (e : S a = some o) (n : a ∉ A) : S' a = some o := h a o n e
theorem Upd.none {S S' : Sto} {a : Addr} (h : Keeps S S') (e : S' a = none) : S a = none := by
  cases q : S a with
  | none => rfl
  | some o => rw [h a o (fun z => by cases z) q] at e; cases e

theorem isi_of {CL : List Str} {d c : D} {t u : Tg} {S : Sto} {Q : NQ} {r : Bool} (h1 : tgOf S d = some t) (h2 : clOf c = some u) (h3 : (T1 CL).contains t = true) (h4 : (T2 CL).contains u = true) (h5 : isT t u = r) : nIsi CL [d, c] S Q = Q (.bl r) S := by
  unfold nIsi
  simp only [h1, h2, h3, h4, h5, true_and]
theorem isi_non_int {CL : List Str}  (S : Sto) (Q : NQ) : nIsi CL [.non, .ty "int"] S Q = Q (.bl false) S := isi_of (t := .ty "NoneType") rfl rfl (by simp [T1]) (by simp [T2]) rfl
theorem isi_non_bool {CL : List Str}  (S : Sto) (Q : NQ) : nIsi CL [.non, .ty "bool"] S Q = Q (.bl false) S := isi_of (t := .ty "NoneType") rfl rfl (by simp [T1]) (by simp [T2]) rfl
theorem isi_non_str {CL : List Str}  (S : Sto) (Q : NQ) : nIsi CL [.non, .ty "str"] S Q = Q (.bl false) S := isi_of (t := .ty "NoneType") rfl rfl (by simp [T1]) (by simp [T2]) rfl
theorem isi_non_tuple {CL : List Str}  (S : Sto) (Q : NQ) : nIsi CL [.non, .ty "tuple"] S Q = Q (.bl false) S := isi_of (t := .ty "NoneType") rfl rfl (by simp [T1]) (by simp [T2]) rfl
theorem isi_bl_int {CL : List Str} (b : Bool) (S : Sto) (Q : NQ) : nIsi CL [.bl b, .ty "int"] S Q = Q (.bl true) S := isi_of (t := .ty "bool") rfl rfl (by simp [T1]) (by simp [T2]) rfl
theorem isi_bl_bool {CL : List Str} (b : Bool) (S : Sto) (Q : NQ) : nIsi CL [.bl b, .ty "bool"] S Q = Q (.bl true) S := isi_of (t := .ty "bool") rfl rfl (by simp [T1]) (by simp [T2]) rfl
theorem isi_bl_str {CL : List Str} (b : Bool) (S : Sto) (Q : NQ) : nIsi CL [.bl b, .ty "str"] S Q = Q (.bl false) S := isi_of (t := .ty "bool") rfl rfl (by simp [T1]) (by simp [T2]) rfl
theorem isi_bl_tuple {CL : List Str} (b : Bool) (S : Sto) (Q : NQ) : nIsi CL [.bl b, .ty "tuple"] S Q = Q (.bl false) S := isi_of (t := .ty "bool") rfl rfl (by simp [T1]) (by simp [T2]) rfl
theorem isi_int_int {CL : List Str} (i : Int) (S : Sto) (Q : NQ) : nIsi CL [.int i, .ty "int"] S Q = Q (.bl true) S := isi_of (t := .ty "int") rfl rfl (by simp [T1]) (by simp [T2]) rfl
theorem isi_int_bool {CL : List Str} (i : Int) (S : Sto) (Q : NQ) : nIsi CL [.int i, .ty "bool"] S Q = Q (.bl false) S := isi_of (t := .ty "int") rfl rfl (by simp [T1]) (by simp [T2]) rfl
theorem isi_int_str {CL : List Str} (i : Int) (S : Sto) (Q : NQ) : nIsi CL [.int i, .ty "str"] S Q = Q (.bl false) S := isi_of (t := .ty "int") rfl rfl (by simp [T1]) (by simp [T2]) rfl
theorem isi_int_tuple {CL : List Str} (i : Int) (S : Sto) (Q : NQ) : nIsi CL [.int i, .ty "tuple"] S Q = Q (.bl false) S := isi_of (t := .ty "int") rfl rfl (by simp [T1]) (by simp [T2]) rfl
theorem isi_str_int {CL : List Str} (x : Str) (S : Sto) (Q : NQ) : nIsi CL [.str x, .ty "int"] S Q = Q (.bl false) S := isi_of (t := .ty "str") rfl rfl (by simp [T1]) (by simp [T2]) rfl
theorem isi_str_bool {CL : List Str} (x : Str) (S : Sto) (Q : NQ) : nIsi CL [.str x, .ty "bool"] S Q = Q (.bl false) S := isi_of (t := .ty "str") rfl rfl (by simp [T1]) (by simp [T2]) rfl
theorem isi_str_str {CL : List Str} (x : Str) (S : Sto) (Q : NQ) : nIsi CL [.str x, .ty "str"] S Q = Q (.bl true) S := isi_of (t := .ty "str") rfl rfl (by simp [T1]) (by simp [T2]) rfl
theorem isi_str_tuple {CL : List Str} (x : Str) (S : Sto) (Q : NQ) : nIsi CL [.str x, .ty "tuple"] S Q = Q (.bl false) S := isi_of (t := .ty "str") rfl rfl (by simp [T1]) (by simp [T2]) rfl
theorem isi_tup_int {CL : List Str} (ds : List D) (S : Sto) (Q : NQ) : nIsi CL [.tup ds, .ty "int"] S Q = Q (.bl false) S := isi_of (t := .ty "tuple") rfl rfl (by simp [T1]) (by simp [T2]) rfl
theorem isi_tup_bool {CL : List Str} (ds : List D) (S : Sto) (Q : NQ) : nIsi CL [.tup ds, .ty "bool"] S Q = Q (.bl false) S := isi_of (t := .ty "tuple") rfl rfl (by simp [T1]) (by simp [T2]) rfl
theorem isi_tup_str {CL : List Str} (ds : List D) (S : Sto) (Q : NQ) : nIsi CL [.tup ds, .ty "str"] S Q = Q (.bl false) S := isi_of (t := .ty "tuple") rfl rfl (by simp [T1]) (by simp [T2]) rfl
theorem isi_tup_tuple {CL : List Str} (ds : List D) (S : Sto) (Q : NQ) : nIsi CL [.tup ds, .ty "tuple"] S Q = Q (.bl true) S := isi_of (t := .ty "tuple") rfl rfl (by simp [T1]) (by simp [T2]) rfl
theorem isi_rol_int {CL : List Str} (ds : List D) (S : Sto) (Q : NQ) : nIsi CL [.rol ds, .ty "int"] S Q = Q (.bl false) S := isi_of (t := .ty "list") rfl rfl (by simp [T1]) (by simp [T2]) rfl
theorem isi_rol_bool {CL : List Str} (ds : List D) (S : Sto) (Q : NQ) : nIsi CL [.rol ds, .ty "bool"] S Q = Q (.bl false) S := isi_of (t := .ty "list") rfl rfl (by simp [T1]) (by simp [T2]) rfl
theorem isi_rol_str {CL : List Str} (ds : List D) (S : Sto) (Q : NQ) : nIsi CL [.rol ds, .ty "str"] S Q = Q (.bl false) S := isi_of (t := .ty "list") rfl rfl (by simp [T1]) (by simp [T2]) rfl
theorem isi_rol_tuple {CL : List Str} (ds : List D) (S : Sto) (Q : NQ) : nIsi CL [.rol ds, .ty "tuple"] S Q = Q (.bl false) S := isi_of (t := .ty "list") rfl rfl (by simp [T1]) (by simp [T2]) rfl
theorem isi_lst_int {CL : List Str} {a : Addr} (ds : List D) {S : Sto} (Q : NQ) (h : S a = some (.lst ds)) : nIsi CL [.ref a, .ty "int"] S Q = Q (.bl false) S := isi_of (t := .ty "list") (by simp only [tgOf, h]) rfl (by simp [T1]) (by simp [T2]) rfl
theorem isi_lst_bool {CL : List Str} {a : Addr} (ds : List D) {S : Sto} (Q : NQ) (h : S a = some (.lst ds)) : nIsi CL [.ref a, .ty "bool"] S Q = Q (.bl false) S := isi_of (t := .ty "list") (by simp only [tgOf, h]) rfl (by simp [T1]) (by simp [T2]) rfl
theorem isi_lst_str {CL : List Str} {a : Addr} (ds : List D) {S : Sto} (Q : NQ) (h : S a = some (.lst ds)) : nIsi CL [.ref a, .ty "str"] S Q = Q (.bl false) S := isi_of (t := .ty "list") (by simp only [tgOf, h]) rfl (by simp [T1]) (by simp [T2]) rfl
theorem isi_lst_tuple {CL : List Str} {a : Addr} (ds : List D) {S : Sto} (Q : NQ) (h : S a = some (.lst ds)) : nIsi CL [.ref a, .ty "tuple"] S Q = Q (.bl false) S := isi_of (t := .ty "list") (by simp only [tgOf, h]) rfl (by simp [T1]) (by simp [T2]) rfl
theorem isi_lst_list {CL : List Str} {a : Addr} (ds : List D) {S : Sto} (Q : NQ) (h : S a = some (.lst ds)) : nIsi CL [.ref a, .ty "list"] S Q = Q (.bl true) S := isi_of (t := .ty "list") (by simp only [tgOf, h]) rfl (by simp [T1]) (by simp [T2]) rfl
theorem isi_dic_int {CL : List Str} {a : Addr} (ds : List (Key × D)) {S : Sto} (Q : NQ) (h : S a = some (.dic ds)) : nIsi CL [.ref a, .ty "int"] S Q = Q (.bl false) S := isi_of (t := .ty "dict") (by simp only [tgOf, h]) rfl (by simp [T1]) (by simp [T2]) rfl
theorem isi_dic_bool {CL : List Str} {a : Addr} (ds : List (Key × D)) {S : Sto} (Q : NQ) (h : S a = some (.dic ds)) : nIsi CL [.ref a, .ty "bool"] S Q = Q (.bl false) S := isi_of (t := .ty "dict") (by simp only [tgOf, h]) rfl (by simp [T1]) (by simp [T2]) rfl
theorem isi_dic_str {CL : List Str} {a : Addr} (ds : List (Key × D)) {S : Sto} (Q : NQ) (h : S a = some (.dic ds)) : nIsi CL [.ref a, .ty "str"] S Q = Q (.bl false) S := isi_of (t := .ty "dict") (by simp only [tgOf, h]) rfl (by simp [T1]) (by simp [T2]) rfl
theorem isi_dic_tuple {CL : List Str} {a : Addr} (ds : List (Key × D)) {S : Sto} (Q : NQ) (h : S a = some (.dic ds)) : nIsi CL [.ref a, .ty "tuple"] S Q = Q (.bl false) S := isi_of (t := .ty "dict") (by simp only [tgOf, h]) rfl (by simp [T1]) (by simp [T2]) rfl
theorem isi_exc {CL : List Str} {a : Addr} {c x : Str} {S : Sto} (Q : NQ) (h : S a = some (.exc c none)) (h3 : (T1 CL).contains (.cls c) = true) (h4 : (T2 CL).contains (.cls x) = true) : nIsi CL [.ref a, .cls x] S Q = Q (.bl (isT (.cls c) (.cls x))) S := isi_of (t := .cls c) (by simp only [tgOf, h]) rfl h3 h4 rfl
theorem isi_excV {CL : List Str} {a : Addr} {c : Str} {S : Sto} (Q : NQ) (h : S a = some (.exc c none)) (h3 : (T1 CL).contains (.cls c) = true) : nIsi CL [.ref a, .ty "ValueError"] S Q = Q (.bl true) S := isi_of (t := .cls c) (by simp only [tgOf, h]) rfl h3 (by simp [T2]) rfl
/-- a caught exception of class c, with a dict of its own or without -/
def ExcAt (S : Sto) (a : Addr) (c : Str) : Prop := S a = some (.exc c none) ∨ ∃ d fs, S a = some (.exc c (some d)) ∧ S d = some (.xd fs)
theorem ExcAt.tg {S : Sto} {a : Addr} {c : Str} (h : ExcAt S a c) : tgOf S (.ref a) = some (.cls c) := by
  rcases h with h | ⟨d, fs, h, g⟩
  · simp only [tgOf, h]
  · simp only [tgOf, h, g]
theorem ExcAt.keep {S S' : Sto} {a : Addr} {c : Str} (h : ExcAt S a c) (K : Keeps S S') : ExcAt S' a c := by
  rcases h with h | ⟨d, fs, h, g⟩
  · exact .inl (K _ _ (by simp) h)
  · exact .inr ⟨d, fs, K _ _ (by simp) h, K _ _ (by simp) g⟩
theorem isi_excA {CL : List Str} {a : Addr} {c x : Str} {S : Sto} (Q : NQ) (h : ExcAt S a c) (h3 : (T1 CL).contains (.cls c) = true) (h4 : (T2 CL).contains (.cls x) = true) : nIsi CL [.ref a, .cls x] S Q = Q (.bl (isT (.cls c) (.cls x))) S := isi_of (t := .cls c) h.tg rfl h3 h4 rfl
theorem isi_excVA {CL : List Str} {a : Addr} {c : Str} {S : Sto} (Q : NQ) (h : ExcAt S a c) (h3 : (T1 CL).contains (.cls c) = true) : nIsi CL [.ref a, .ty "ValueError"] S Q = Q (.bl true) S := isi_of (t := .cls c) h.tg rfl h3 (by simp [T2]) rfl
theorem isi_nonC {CL : List Str} {x : Str} {S : Sto} (Q : NQ) (h4 : (T2 CL).contains (.cls x) = true) : nIsi CL [.non, .cls x] S Q = Q (.bl false) S := isi_of (t := .ty "NoneType") rfl rfl (by simp [T1]) h4 rfl
theorem isi_nonV {CL : List Str} {S : Sto} (Q : NQ) : nIsi CL [.non, .ty "ValueError"] S Q = Q (.bl false) S := isi_of (t := .ty "NoneType") rfl rfl (by simp [T1]) (by simp [T2]) rfl
theorem atI_nat' {α : Type} {xs : List α} {i : Int} (h : 0 ≤ i) : atI xs i = xs[i.toNat]? := by
  unfold atI ixN
  rw [if_pos h]
  by_cases h2 : i < xs.length
  · rw [if_pos h2]; rfl
  · rw [if_neg h2, List.getElem?_eq_none (by omega)]; rfl
theorem atI_0 {α : Type} (a : α) (r : List α) : atI (a :: r) 0 = some a := by rw [atI_nat' (by decide)]; rfl
theorem atI_1 {α : Type} (a b : α) (r : List α) : atI (a :: b :: r) 1 = some b := by rw [atI_nat' (by decide)]; rfl
theorem atI_2 {α : Type} (a b c : α) (r : List α) : atI (a :: b :: c :: r) 2 = some c := by rw [atI_nat' (by decide)]; rfl
theorem atI_3 {α : Type} (a b c d : α) (r : List α) : atI (a :: b :: c :: d :: r) 3 = some d := by rw [atI_nat' (by decide)]; rfl
theorem atI_4 {α : Type} (a b c d e : α) (r : List α) : atI (a :: b :: c :: d :: e :: r) 4 = some e := by rw [atI_nat' (by decide)]; rfl
theorem cut_13 (a b c : D) (r : List D) : cutD (a :: b :: c :: r) (some 1) (some 3) = [b, c] := by
  unfold cutD
  have h1 : HT.sIx (a :: b :: c :: r).length 0 (some 1) = 1 := (HT.sIx_nat _ _ 1).trans (Nat.min_eq_left (by simp only [List.length_cons]; omega))
  have h2 : HT.sIx (a :: b :: c :: r).length (a :: b :: c :: r).length (some 3) = 3 := (HT.sIx_nat _ _ 3).trans (Nat.min_eq_left (by simp only [List.length_cons]; omega))
  rw [h1, h2]; rfl
theorem cut_4 (a b c d : D) (r : List D) : cutD (a :: b :: c :: d :: r) (some 4) none = r := by
  unfold cutD
  have h1 : HT.sIx (a :: b :: c :: d :: r).length 0 (some 4) = 4 := (HT.sIx_nat _ _ 4).trans (Nat.min_eq_left (by simp only [List.length_cons]; omega))
  rw [h1, HT.sIx_none]
  simp
theorem cut_3 (a b c : D) (r : List D) : cutD (a :: b :: c :: r) (some 3) none = r := by
  unfold cutD
  have h1 : HT.sIx (a :: b :: c :: r).length 0 (some 3) = 3 := (HT.sIx_nat _ _ 3).trans (Nat.min_eq_left (by simp only [List.length_cons]; omega))
  rw [h1, HT.sIx_none]
  simp
theorem len_lit (n : Nat) : ((OfNat.ofNat n : Nat) : Int) = (OfNat.ofNat n : Int) := rfl
end N

set_option linter.all false
set_option maxRecDepth 100000
namespace N
open PySem L2
/-! simp must not look into what comes after a call: the tag makes it fixed -/
structure TgQ (Q : NQ) (E : Str → Option Addr → Sto → Prop) : Type where
def runF (sp : NSp) (ds : List D) (S : Sto) (Q : NQ) (E : Str → Option Addr → Sto → Prop) (_ : TgQ Q E) : Prop := sp ds S Q E
structure TgZ (g : NG) (b : NS) (Z : NEnds) : Type where
def runL (g : NG) (b : NS) (Z : NEnds) (kp : Keep) (ds : List D) (e : Env) (S : Sto) (_ : TgZ g b Z) : Prop := loopL g b Z kp ds e S
structure TgW (c : NT) (b : NS) (Z : NEnds) : Type where
def runW (c : NT) (b : NS) (Z : NEnds) (e : Env) (S : Sto) (_ : TgW c b Z) : Prop := ∃ n, whileN c b Z n e S
theorem u_mOp (n : N2) (ma mb : NE) (e : Env) (S : Sto) (Q : NQ) : mOp n ma mb e S Q = (ma e S fun x S1 => mb e S1 fun y S2 => n x y S2 Q) := id rfl
theorem u_mTst (m : NE) (e : Env) (S : Sto) (Q : Bool → Sto → Prop) : mTst m e S Q = (m e S fun d S' => match d with
  | .bl k => Q k S'
  | _ => False) := id rfl
theorem u_mVar (i : Nat) (e : Env) (S : Sto) (Q : NQ) : mVar i e S Q = (match nth e i with
  | some d => Q d S
  | none => False) := id rfl
theorem u_mC (d : D) (u0_ : Env) (S : Sto) (Q : NQ) : mC d u0_ S Q = (Q d S) := id rfl
theorem u_mAnd (t u : NT) (e : Env) (S : Sto) (Q : Bool → Sto → Prop) : mAnd t u e S Q = (t e S fun c S1 => match c with
  | true => u e S1 Q
  | false => Q false S1) := id rfl
theorem u_mOr (t u : NT) (e : Env) (S : Sto) (Q : Bool → Sto → Prop) : mOr t u e S Q = (t e S fun c S1 => match c with
  | true => Q true S1
  | false => u e S1 Q) := id rfl
theorem u_mNot (t : NT) (e : Env) (S : Sto) (Q : Bool → Sto → Prop) : mNot t e S Q = (t e S fun c S1 => Q (!c) S1) := id rfl
theorem u_mAndV (m n : NE) (e : Env) (S : Sto) (Q : NQ) : mAndV m n e S Q = (m e S fun d S1 => match d with
  | .bl true => n e S1 Q
  | .bl false => Q (.bl false) S1
  | _ => False) := id rfl
theorem u_mOrV (m n : NE) (e : Env) (S : Sto) (Q : NQ) : mOrV m n e S Q = (m e S fun d S1 => match d with
  | .bl true => Q (.bl true) S1
  | .bl false => n e S1 Q
  | _ => False) := id rfl
theorem u_mNotV (m : NE) (e : Env) (S : Sto) (Q : NQ) : mNotV m e S Q = (m e S fun d S1 => match d with
  | .bl k => Q (.bl (!k)) S1
  | _ => False) := id rfl
theorem u_mIf (t : NT) (m n : NE) (e : Env) (S : Sto) (Q : NQ) : mIf t m n e S Q = (t e S fun c S1 => match c with
  | true => m e S1 Q
  | false => n e S1 Q) := id rfl
theorem u_mChain (n n' : N2) (ma mb mc : NE) (e : Env) (S : Sto) (Q : NQ) : mChain n n' ma mb mc e S Q = (ma e S fun x S1 => mb e S1 fun y S2 => n x y S2 fun z S3 => match z with
  | .bl true => mc e S3 fun u S4 => n' y u S4 Q
  | .bl false => Q (.bl false) S3
  | _ => False) := id rfl
theorem u_mNil (u0_ : Env) (S : Sto) (Q : List D → Sto → Prop) : mNil  u0_ S Q = (Q [] S) := id rfl
theorem u_mCons (m : NE) (r : NA) (e : Env) (S : Sto) (Q : List D → Sto → Prop) : mCons m r e S Q = (m e S fun x S1 => r e S1 fun xs S2 => Q (x :: xs) S2) := id rfl
theorem u_mTup (r : NA) (e : Env) (S : Sto) (Q : NQ) : mTup r e S Q = (r e S fun ds S1 => ds.length ≤ sizeLine ∧ Q (.tup ds) S1) := id rfl
theorem u_mLst (r : NA) (e : Env) (S : Sto) (Q : NQ) : mLst r e S Q = (r e S fun ds S1 => ds.length ≤ sizeLine ∧ ∀ p, S1 p = none → Q (.ref p) (put S1 p (.lst ds))) := id rfl
theorem u_mDic0 (u0_ : Env) (S : Sto) (Q : NQ) : mDic0  u0_ S Q = (∀ p, S p = none → Q (.ref p) (put S p (.dic []))) := id rfl
theorem u_nAdd (x : D) (y : D) (S : Sto) (Q : NQ) : nAdd  x y S Q = (match x, y with
  | .int i, .int j => Q (.int (i + j)) S
  | .str a, .str b => a.length + b.length ≤ sizeLine ∧ Q (.str (a ++ b)) S
  | .tup a, .tup b => a.length + b.length ≤ sizeLine ∧ Q (.tup (a ++ b)) S
  | .ref a, .ref b => (match S a, S b with
    | some (.lst xs), some (.lst ys) => xs.length + ys.length ≤ sizeLine ∧ ∀ p, S p = none → Q (.ref p) (put S p (.lst (xs ++ ys)))
    | _, _ => False)
  | _, _ => False) := id rfl
theorem u_nInt (C : Int → Int → Prop) (g : Int → Int → D) (x : D) (y : D) (S : Sto) (Q : NQ) : nInt C g x y S Q = (match x, y with
  | .int i, .int j => C i j ∧ Q (g i j) S
  | _, _ => False) := id rfl
theorem u_nInt0 (g : Int → Int → D) (x : D) (y : D) (S : Sto) (Q : NQ) : nInt0 g x y S Q = (match x, y with
  | .int i, .int j => Q (g i j) S
  | _, _ => False) := id rfl
theorem u_nIsN (x : D) (y : D) (S : Sto) (Q : NQ) : nIsN  x y S Q = (match y with
  | .non => Q (.bl (isNonD x)) S
  | _ => False) := id rfl
theorem u_nNotN (x : D) (y : D) (S : Sto) (Q : NQ) : nNotN  x y S Q = (match y with
  | .non => Q (.bl (!isNonD x)) S
  | _ => False) := id rfl
theorem u_nEq (x : D) (y : D) (S : Sto) (Q : NQ) : nEq  x y S Q = (match eqT S x y with
  | some b => Q (.bl b) S
  | none => False) := id rfl
theorem u_nNe (x : D) (y : D) (S : Sto) (Q : NQ) : nNe  x y S Q = (match eqT S x y with
  | some b => Q (.bl (!b)) S
  | none => False) := id rfl
theorem u_nIn (x : D) (y : D) (S : Sto) (Q : NQ) : nIn  x y S Q = (match seqOf S y with
  | some ds => flatD x = true ∧ ds.all flatD = true ∧ Q (.bl (ds.any fun d => eqF d x)) S
  | none => match dicOf S y with
    | some kvs => (match keyD x with
      | some k => Q (.bl (dget kvs k).isSome) S
      | none => False)
    | none => match x, y with
      | .str c, .str z => c.cps.size = 1 ∧ Q (.bl (decide (c.cps.getD 0 0 ∈ z.cps.toList))) S
      | _, _ => False) := id rfl
theorem u_nNin (x : D) (y : D) (S : Sto) (Q : NQ) : nNin  x y S Q = (nIn x y S fun d S' => match d with
  | .bl b => Q (.bl (!b)) S'
  | _ => False) := id rfl
theorem u_nIx (x : D) (y : D) (S : Sto) (Q : NQ) : nIx  x y S Q = (match seqOf S x, y with
  | some ds, .int i => (match L2.atI ds i with
    | some d => Q d S
    | none => False)
  | _, _ => match dicOf S x, keyD y with
    | some kvs, some k => (match dget kvs k with
      | some d => Q d S
      | none => False)
    | _, _ => match x, y with
      | .str z, .int i => z.length ≤ sizeLine ∧ (match L2.atI z.cps.toList i with
        | some c => Q (.str ⟨#[c]⟩) S
        | none => False)
      | _, _ => False) := id rfl
theorem u_mNoPart (u0_ : Env) (S : Sto) (Q : Option Int → Sto → Prop) : mNoPart  u0_ S Q = (Q none S) := id rfl
theorem u_mPart (m : NE) (e : Env) (S : Sto) (Q : Option Int → Sto → Prop) : mPart m e S Q = (m e S fun d S1 => match d with
  | .int i => Q (some i) S1
  | _ => False) := id rfl
theorem u_nSl (x : D) (lo : Option Int) (hi : Option Int) (S : Sto) (Q : NQ) : nSl  x lo hi S Q = (match x with
  | .tup ds => Q (.tup (cutD ds lo hi)) S
  | .str z => z.length ≤ sizeLine ∧ Q (.str (cutS z lo hi)) S
  | .rol ds => ∀ p, S p = none → Q (.ref p) (put S p (.lst (cutD ds lo hi)))
  | .ref a => (match S a with
    | some (.lst ds) => ∀ p, S p = none → Q (.ref p) (put S p (.lst (cutD ds lo hi)))
    | _ => False)
  | _ => False) := id rfl
theorem u_mSl (m : NE) (l h : NO) (e : Env) (S : Sto) (Q : NQ) : mSl m l h e S Q = (m e S fun x S1 => l e S1 fun lo S2 => h e S2 fun hi S3 => nSl x lo hi S3 Q) := id rfl
theorem u_nRev (x : D) (S : Sto) (Q : NQ) : nRev  x S Q = (match x with
  | .ref a => (match S a with
    | some (.lst ds) => ∀ p, S p = none → Q (.ref p) (put S p (.lst ds.reverse))
    | _ => False)
  | _ => False) := id rfl
theorem u_mUn (n : D → Sto → NQ → Prop) (m : NE) (e : Env) (S : Sto) (Q : NQ) : mUn n m e S Q = (m e S fun x S1 => n x S1 Q) := id rfl
theorem u_nNeg (x : D) (S : Sto) (Q : NQ) : nNeg  x S Q = (match x with
  | .int i => Q (.int (-i)) S
  | _ => False) := id rfl
theorem u_nFld (f : Str) (x : D) (S : Sto) (Q : NQ) : nFld f x S Q = (match x with
  | .ref a => (match S a with
    | some (.ins _ fs) => (match fs.lookup f with
      | some v => Q v S
      | none => False)
    | _ => False)
  | _ => False) := id rfl
theorem u_sFldN (f : Str) (mv mo : NE) (Z0 : NEnds) (e : Env) (S : Sto) : sFldN f mv mo Z0 e S = (mv e S fun y S1 => mo e S1 fun x S2 => match x with
  | .ref a => (match S2 a with
    | some (.ins c fs) => fs.length < 1000 ∧ Z0.nx e (put S2 a (.ins c (putD f y fs)))
    | _ => False)
  | _ => False) := id rfl
theorem u_mCallB (n : NL) (mr : NA) (e : Env) (S : Sto) (Q : NQ) : mCallB n mr e S Q = (mr e S fun ds S1 => n ds S1 Q) := id rfl
theorem u_nLen (xs : List D) (S : Sto) (Q : NQ) : nLen  xs S Q = (match xs with
  | [d] => (match lenD S d with
    | some n => Q (.int n) S
    | none => False)
  | _ => False) := id rfl
theorem u_nMax2 (xs : List D) (S : Sto) (Q : NQ) : nMax2  xs S Q = (match xs with
  | [.int i, .int j] => Q (.int (if j > i then j else i)) S
  | _ => False) := id rfl
theorem u_nMin2 (xs : List D) (S : Sto) (Q : NQ) : nMin2  xs S Q = (match xs with
  | [.int i, .int j] => Q (.int (if j < i then j else i)) S
  | _ => False) := id rfl
theorem u_nAbs (xs : List D) (S : Sto) (Q : NQ) : nAbs  xs S Q = (match xs with
  | [.int i] => Q (.int (if i < 0 then -i else i)) S
  | _ => False) := id rfl
theorem u_nInt1 (xs : List D) (S : Sto) (Q : NQ) : nInt1  xs S Q = (match xs with
  | [.int i] => Q (.int i) S
  | [.bl b] => Q (.int (if b then 1 else 0)) S
  | [.str z] => ∃ n, PySem.intText? z = some n ∧ z.length ≤ 640 ∧ Q (.int n) S
  | _ => False) := id rfl
theorem u_nStr1 (xs : List D) (S : Sto) (Q : NQ) : nStr1  xs S Q = (match xs with
  | [.int i] => i.natAbs < 2 ^ 1900 ∧ Q (.str (toString i)) S
  | _ => False) := id rfl
theorem u_nList1 (xs : List D) (S : Sto) (Q : NQ) : nList1  xs S Q = (match xs with
  | [d] => (match seqOf S d with
    | some ds => ∀ p, S p = none → Q (.ref p) (put S p (.lst ds))
    | none => False)
  | _ => False) := id rfl
theorem u_nTuple1 (xs : List D) (S : Sto) (Q : NQ) : nTuple1  xs S Q = (match xs with
  | [d] => (match seqOf S d with
    | some ds => Q (.tup ds) S
    | none => False)
  | _ => False) := id rfl
theorem u_nIsi (CL : List Str) (xs : List D) (S : Sto) (Q : NQ) : nIsi CL xs S Q = (match xs with
  | [x, c] => (match tgOf S x with
    | some t => (match clOf c with
      | some u => (T1 CL).contains t = true ∧ (T2 CL).contains u = true ∧ Q (.bl (isT t u)) S
      | none => match c with
        | .tup cs => (match clsOf cs with
          | some us => (T1 CL).contains t = true ∧ us.all ((T2 CL).contains ·) = true ∧ Q (.bl (us.any (isT t))) S
          | none => False)
        | _ => False)
    | none => False)
  | _ => False) := id rfl
theorem u_mCall (n : Nat) (sp : NSp) (w : NW) (mr : NA) (e : Env) (S : Sto) (Q : NQ) : mCall n sp w mr e S Q = (mr e S fun ds S1 => ds.length = n ∧ runF sp ds S1 Q (fun c d S2 => w c d e S2) .mk) := id rfl
theorem u_mMeth (m : Str) (mt : MT) (w : NW) (mo : NE) (mr : NA) (e : Env) (S : Sto) (Q : NQ) : mMeth m mt w mo mr e S Q = (mo e S fun x S1 => match x with
  | .ref p => (match S1 p with
    | some (.ins c fs) => fs.lookup m = none ∧ (match mt c with
      | some (n, sp) => mr e S1 fun ds S2 => ds.length + 1 = n ∧ runF sp (.ref p :: ds) S2 Q (fun c d S3 => w c d e S3) .mk
      | none => False)
    | _ => False)
  | _ => False) := id rfl
theorem u_mMake (c : Str) (n : Nat) (sp : NSp) (w : NW) (mr : NA) (e : Env) (S : Sto) (Q : NQ) : mMake c n sp w mr e S Q = (mr e S fun ds S1 => ds.length + 1 = n ∧ ∀ x, S1 x = none → runF sp (.ref x :: ds) (put S1 x (.ins c [])) (fun v S2 => isNonD v = true ∧ Q (.ref x) S2) (fun c d S2 => w c d e S2) .mk) := id rfl
theorem u_spOf (N : Nat) (body : NW → NS) (ds : List D) (S : Sto) (Q : NQ) (E : Str → Option Addr → Sto → Prop) : spOf N body ds S Q E = (body (fun c d _ S' => E c d S') { nx := fun _ S' => Q .non S', rt := Q } (startN N ds) S) := id rfl
theorem u_sNext (Z0 : NEnds) (e : Env) (S : Sto) : sNext  Z0 e S = (Z0.nx e S) := id rfl
theorem u_sSeq (t u : NS) (Z0 : NEnds) (e : Env) (S : Sto) : sSeq t u Z0 e S = (t { Z0 with nx := u Z0 } e S) := id rfl
theorem u_sBreak (Z0 : NEnds) (e : Env) (S : Sto) : sBreak  Z0 e S = (Z0.bk e S) := id rfl
theorem u_sCont (Z0 : NEnds) (e : Env) (S : Sto) : sCont  Z0 e S = (Z0.ct e S) := id rfl
theorem u_sDrop (m : NE) (Z0 : NEnds) (e : Env) (S : Sto) : sDrop m Z0 e S = (m e S fun _ S1 => Z0.nx e S1) := id rfl
theorem u_sRet (m : NE) (Z0 : NEnds) (e : Env) (S : Sto) : sRet m Z0 e S = (m e S Z0.rt) := id rfl
theorem u_sIf (c : NT) (t u : NS) (Z0 : NEnds) (e : Env) (S : Sto) : sIf c t u Z0 e S = (c e S fun b S1 => match b with
  | true => t Z0 e S1
  | false => u Z0 e S1) := id rfl
theorem u_gNm (i : Nat) (d : D) (e : Env) (S : Sto) (Q : Env → Sto → Prop) : gNm i d e S Q = (Q (e.set i (some d)) S) := id rfl
theorem u_gsNil (ds : List D) (e : Env) (S : Sto) (Q : Env → Sto → Prop) : gsNil  ds e S Q = (match ds with
  | [] => Q e S
  | _ => False) := id rfl
theorem u_gsCons (t : NG) (u : NGs) (ds : List D) (e : Env) (S : Sto) (Q : Env → Sto → Prop) : gsCons t u ds e S Q = (match ds with
  | d :: r => t d e S fun e1 S1 => u r e1 S1 Q
  | [] => False) := id rfl
theorem u_gTp (n : Nat) (t : NGs) (d : D) (e : Env) (S : Sto) (Q : Env → Sto → Prop) : gTp n t d e S Q = (match d with
  | .tup ds => ds.length = n ∧ t ds e S Q
  | _ => False) := id rfl
theorem u_sAsg (m : NE) (g : NG) (Z0 : NEnds) (e : Env) (S : Sto) : sAsg m g Z0 e S = (m e S fun d S1 => g d e S1 Z0.nx) := id rfl
theorem u_sSet (i : Nat) (m : NE) (Z0 : NEnds) (e : Env) (S : Sto) : sSet i m Z0 e S = (m e S fun d S1 => Z0.nx (e.set i (some d)) S1) := id rfl
theorem u_nSet (o : D) (i : D) (v : D) (S : Sto) (Q : (Sto → Prop)) : nSet  o i v S Q = (match o with
  | .ref p => (match S p with
    | some (.lst ds) => (match i with
      | .int j => (match ixN ds.length j with
        | some k => Q (put S p (.lst (ds.set k v)))
        | none => False)
      | _ => False)
    | some (.dic kvs) => (match keyD i with
      | some k => kvs.length < sizeLine ∧ Q (put S p (.dic (dput kvs k v)))
      | none => False)
    | _ => False)
  | _ => False) := id rfl
theorem u_gIx (mo mi : NE) (d : D) (e : Env) (S : Sto) (Q : Env → Sto → Prop) : gIx mo mi d e S Q = (mo e S fun x S1 => mi e S1 fun i S2 => nSet x i d S2 fun S3 => Q e S3) := id rfl
theorem u_sAug (i : Nat) (m : NE) (n : N2) (Z0 : NEnds) (e : Env) (S : Sto) : sAug i m n Z0 e S = (match nth e i with
  | some x => m e S fun y S1 => n x y S1 fun z S2 => Z0.nx (e.set i (some z)) S2
  | none => False) := id rfl
theorem u_nAdd' (x : D) (y : D) (S : Sto) (Q : NQ) : nAdd'  x y S Q = (match x, y with
  | .int i, .int j => Q (.int (i + j)) S
  | .str a, .str b => a.length + b.length ≤ sizeLine ∧ Q (.str (a ++ b)) S
  | .ref a, .ref b => (match S a, S b with
    | some (.lst xs), some (.lst ys) => xs.length + ys.length ≤ sizeLine ∧ Q (.ref a) (put S a (.lst (xs ++ ys)))
    | _, _ => False)
  | _, _ => False) := id rfl
theorem u_nGet (x : D) (y : D) (S : Sto) (Q : NQ) : nGet  x y S Q = (match x with
  | .ref p => (match S p with
    | some (.lst ds) => (match y with
      | .int i => 0 ≤ i ∧ (match ds[i.toNat]? with
        | some d => Q d S
        | none => False)
      | _ => False)
    | some (.dic kvs) => (match keyD y with
      | some k => (match dget kvs k with
        | some d => Q d S
        | none => False)
      | none => False)
    | _ => False)
  | _ => False) := id rfl
theorem u_sAugS (mo mi : NE) (m : NE) (n : N2) (Z0 : NEnds) (e : Env) (S : Sto) : sAugS mo mi m n Z0 e S = (mo e S fun x S1 => mi e S1 fun i S2 => nGet x i S2 fun y S3 => m e S3 fun z S4 => n y z S4 fun r S5 => nSet x i r S5 fun S6 => Z0.nx e S6) := id rfl
theorem u_nWalk (x : D) (S : Sto) (Q : (List D → Keep → Prop)) : nWalk  x S Q = (match x with
  | .tup ds => Q ds fun _ => True
  | .rol ds => Q ds fun _ => True
  | .ref p => (match S p with
    | some (.lst ds) => Q ds fun S' => S' p = some (.lst ds)
    | _ => False)
  | _ => False) := id rfl
theorem u_sFor (m : NE) (g : NG) (b : NS) (Z0 : NEnds) (e : Env) (S : Sto) : sFor m g b Z0 e S = (m e S fun x S1 => nWalk x S1 fun ds kp => runL g b Z0 kp ds e S1 .mk) := id rfl
theorem u_sForR1 (m : NE) (g : NG) (b : NS) (Z : NEnds) (e : Env) (S : Sto) : sForR1 m g b Z e S = (m e S fun x S1 => match x with
  | .int j => RngOk j ∧ runL g b Z (fun _ => True) (rangeD 0 j.toNat) e S1 .mk
  | _ => False) := id rfl
theorem u_sForR2 (m m' : NE) (g : NG) (b : NS) (Z : NEnds) (e : Env) (S : Sto) : sForR2 m m' g b Z e S = (m e S fun x S1 => m' e S1 fun y S2 => match x, y with
  | .int i, .int j => (RngOk i ∧ RngOk j) ∧ runL g b Z (fun _ => True) (rangeD i (j - i).toNat) e S2 .mk
  | _, _ => False) := id rfl
theorem u_sWhile (c : NT) (b : NS) (Z0 : NEnds) (e : Env) (S : Sto) : sWhile c b Z0 e S = (runW c b Z0 e S .mk) := id rfl
theorem u_sRaise (c : Str) (w : NW) (u0_ : NEnds) (e : Env) (S : Sto) : sRaise c w u0_ e S = (w c none e S) := id rfl
theorem u_sTryO (CL : List Str) (x : Str) (mb : NW → NS) (ms : NS) (w : NW) (Z0 : NEnds) (e : Env) (S : Sto) : sTryO CL x mb ms w Z0 e S = (mb (fun c d e1 S1 => match catchOf CL c x with
  | some true => ms Z0 e1 S1
  | some false => w c d e1 S1
  | none => False) Z0 e S) := id rfl
theorem u_sTryK (CL : List Str) (x : Str) (i j : Nat) (mb : NW → NS) (w : NW) (Z0 : NEnds) (e : Env) (S : Sto) : sTryK CL x i j mb w Z0 e S = (mb (fun c d e1 S1 => match catchOf CL c x with
  | some true => i < e1.length ∧ ∀ a, S1 a = none → Z0.nx ((e1.set j (some (.ref a))).set i none) (put S1 a (.exc c d))
  | some false => w c d e1 S1
  | none => False) Z0 e S) := id rfl
theorem u_nTupIndex (ys : List Str) (y : D) (S : Sto) (Q : NQ) : nTupIndex ys y S Q = (match y with
  | .str z => (match ys.findIdx? (fun x => decide (x = z)) with
    | some j => Q (.int (j : Nat)) S
    | none => False)
  | _ => False) := id rfl
theorem u_mTupIndex (ys : List Str) (m : NE) (e : Env) (S : Sto) (Q : NQ) : mTupIndex ys m e S Q = (m e S fun d S1 => nTupIndex ys d S1 Q) := id rfl
theorem u_nIndex (x : D) (y : D) (S : Sto) (Q : NQ) : nIndex  x y S Q = (match x with
  | .ref p => (match S p with
    | some (.lst ds) => flatD y = true ∧ ds.all flatD = true ∧ (match ds.findIdx? (fun d => eqF d y) with
      | some j => Q (.int (j : Nat)) S
      | none => False)
    | _ => False)
  | _ => False) := id rfl
theorem u_mLm (n : D → List D → Sto → NQ → Prop) (mo : NE) (mr : NA) (e : Env) (S : Sto) (Q : NQ) : mLm n mo mr e S Q = (mo e S fun x S1 => (∃ p ds, x = .ref p ∧ S1 p = some (.lst ds)) ∧ mr e S1 fun ds S2 => n x ds S2 Q) := id rfl
theorem u_nAppend (x : D) (ys : List D) (S : Sto) (Q : NQ) : nAppend  x ys S Q = (match x, ys with
  | .ref p, [y] => (match S p with
    | some (.lst ds) => ds.length < sizeLine ∧ Q .non (put S p (.lst (ds ++ [y])))
    | _ => False)
  | _, _ => False) := id rfl
theorem u_nIndexL (x : D) (ys : List D) (S : Sto) (Q : NQ) : nIndexL  x ys S Q = (match ys with
  | [y] => nIndex x y S Q
  | _ => False) := id rfl
theorem u_mDisp (ps : List (Key × NE)) (e : Env) (S : Sto) (Q : NQ) : mDisp ps e S Q = (∀ p, S p = none → mPairs ps e (put S p (.dic [])) fun kvs S2 => S2 p = some (.dic []) ∧ kvs.length ≤ 15 ∧ Q (.ref p) (put S2 p (.dic (mergeD [] kvs)))) := id rfl
theorem u_sFldAugN (f : Str) (mo mv : NE) (n : N2) (Z : NEnds) (e : Env) (S : Sto) : sFldAugN f mo mv n Z e S = (mo e S fun x S1 => match x with
  | .ref p => (match S1 p with
    | some (.ins c fs) => (match fs.lookup f with
      | some v => mv e S1 fun y S2 => n v y S2 fun z S3 => (match S3 p with
        | some (.ins c' fs') => c' = c ∧ fs'.length < 1000 ∧ Z.nx e (put S3 p (.ins c (putD f z fs')))
        | _ => False)
      | none => False)
    | _ => False)
  | _ => False) := id rfl
theorem u_nSub (x y : D) (S : Sto) (Q : NQ) : nSub x y S Q = nInt0 (fun i j => .int (i - j)) x y S Q := id rfl
theorem u_nMul (x y : D) (S : Sto) (Q : NQ) : nMul x y S Q = nInt MulOk (fun i j => .int (i * j)) x y S Q := id rfl
theorem u_nDiv (x y : D) (S : Sto) (Q : NQ) : nDiv x y S Q = nInt DivOk (fun i j => .int (i / j)) x y S Q := id rfl
theorem u_nMod (x y : D) (S : Sto) (Q : NQ) : nMod x y S Q = nInt (fun _ j => 0 < j) (fun i j => .int (i % j)) x y S Q := id rfl
theorem u_nPow (x y : D) (S : Sto) (Q : NQ) : nPow x y S Q = nInt PowOk (fun i j => .int (i ^ j.toNat)) x y S Q := id rfl
theorem u_nLt (x y : D) (S : Sto) (Q : NQ) : nLt x y S Q = nInt0 (fun i j => .bl (decide (i < j))) x y S Q := id rfl
theorem u_nLe (x y : D) (S : Sto) (Q : NQ) : nLe x y S Q = nInt0 (fun i j => .bl (decide (i ≤ j))) x y S Q := id rfl
theorem u_nGt (x y : D) (S : Sto) (Q : NQ) : nGt x y S Q = nInt0 (fun i j => .bl (decide (j < i))) x y S Q := id rfl
theorem u_nGe (x y : D) (S : Sto) (Q : NQ) : nGe x y S Q = nInt0 (fun i j => .bl (decide (j ≤ i))) x y S Q := id rfl
end N

set_option linter.all false
set_option maxRecDepth 100000
set_option maxHeartbeats 4000000
namespace N
open PySem L2
/-! ### the state of a law that draws numbers -/
@[irreducible] def stD (cells : List D) (b : Addr) (n : Int) : List (Key × D) := [(.inr "cells", .rol cells), (.inr "left", .ref b), (.inr "at", .int n)]
theorem stD_cells {cells : List D} {b : Addr} {n : Int} : dget (stD cells b n) (.inr "cells") = some (.rol cells) := by unfold stD; rfl
theorem stD_left {cells : List D} {b : Addr} {n : Int} : dget (stD cells b n) (.inr "left") = some (.ref b) := by unfold stD; rfl
theorem stD_at {cells : List D} {b : Addr} {n : Int} : dget (stD cells b n) (.inr "at") = some (.int n) := by unfold stD; rfl
theorem stD_put {cells : List D} {b : Addr} {n m : Int} : dput (stD cells b n) (.inr "at") (.int m) = stD cells b m := by unfold stD; rfl
theorem stD_len {cells : List D} {b : Addr} {n : Int} : ((stD cells b n).length < sizeLine) = True := by unfold stD; simp; decide
theorem stD_mk {cells : List D} {b : Addr} {n : Int} : mergeD [] [(.inr "cells", .rol cells), (.inr "left", .ref b), (.inr "at", .int n)] = stD cells b n := by unfold stD; rfl
structure LSt (a b : Addr) (ns : List Int) (S : Sto) : Prop where
  ab : a ≠ b
  ex : ∃ (n : Int) (ls : List Int), S a = some (.dic (stD (ns.map D.int) b n)) ∧ S b = some (.lst (ls.map D.int)) ∧ ls.length = ns.length
theorem LSt.up {a b : Addr} {ns : List Int} {S S' : Sto} {A : List Addr} (h : LSt a b ns S) (u : Upd A S S') (na : a ∉ A) (nb : b ∉ A) : LSt a b ns S' := by
  obtain ⟨ab, n, ls, h1, h2, h3⟩ := h
  exact ⟨ab, n, ls, u a _ na h1, u b _ nb h2, h3⟩
theorem pyDs_ints (ns : List Int) : pyDs (ns.map D.int) = some (ns.map PyData.int) := by
  induction ns with
  | nil => rfl
  | cons n r ih => simp only [List.map_cons, pyDs, pyD, ih]
theorem shaped_ints (ns : List Int) : SeqAt.shaped (.list (ns.map PyData.int)) = true := by
  have h1 : ∀ ns : List Int, PyData.canLayAll0 (ns.map PyData.int) = true := by
    intro ns; induction ns with
    | nil => rfl
    | cons n r ih => simp [PyData.canLayAll0, PyData.canLay0, ih]
  have h2 : ∀ ns : List Int, PyData.depthAll (ns.map PyData.int) ≤ 1 := by
    intro ns; induction ns with
    | nil => decide
    | cons n r ih => simp only [List.map_cons, PyData.depthAll, PyData.depth]; omega
  have h3 := h2 ns
  unfold SeqAt.shaped
  simp [PyData.canLay0, h1, PyData.depth]; omega
theorem eqT_rol_nil {S : Sto} {ns : List Int} {p : Addr} (h : S p = some (.lst [])) : eqT S (.rol (ns.map D.int)) (.ref p) = some (decide (ns = [])) := by
  unfold eqT
  simp only [pyT, pyD, h, pyDs_ints, pyDs, Option.map_some]
  cases ns with
  | nil => rfl
  | cons n r => rw [shaped_ints]; rfl
theorem idx_some {ns : List Int} {i : Int} (h0 : 0 ≤ i) (h1 : i < ns.length) : ∃ v, atI (ns.map D.int) i = some (.int v) ∧ ∀ w, ∃ ls, (ns.map D.int).set i.toNat (.int w) = List.map D.int ls ∧ ls.length = ns.length := by
  refine ⟨ns[i.toNat]'(by omega), ?_, fun w => ⟨ns.set i.toNat w, by rw [List.map_set], by simp⟩⟩
  rw [atI_nat' h0, List.getElem?_map, List.getElem?_eq_getElem (by omega)]
  rfl
theorem ixN_in {n : Nat} {i : Int} (h0 : 0 ≤ i) (h1 : i < n) : ixN n i = some i.toNat := by
  unfold ixN
  rw [if_pos h0, if_pos h1]
theorem mod_lt {i j : Int} (h : 0 < j) : 0 ≤ i % j ∧ i % j < j := ⟨Int.emod_nonneg _ (by omega), Int.emod_lt_of_pos _ h⟩
theorem mul_ok_l {i j : Int} (h0 : 0 ≤ i) (h1 : i < 2 ^ 64) : MulOk i j := .inl (by omega)
theorem mul_ok_r {i j : Int} (h0 : 0 ≤ j) (h1 : j < 2 ^ 64) : MulOk i j := .inr (.inl (by omega))
theorem eqT_ii {S : Sto} {i j : Int} : eqT S (.int i) (.int j) = some (decide (i = j)) := rfl
theorem eqT_ss {S : Sto} {i j : Str} : eqT S (.str i) (.str j) = some (decide (i = j)) := rfl
theorem eqT_bb {S : Sto} {i j : Bool} : eqT S (.bl i) (.bl j) = some (decide (i = j)) := rfl
theorem eqT_nn {S : Sto} : eqT S .non .non = some true := rfl
theorem eqT_ni {S : Sto} {i : Int} : eqT S .non (.int i) = some false := rfl
theorem eqT_in {S : Sto} {i : Int} : eqT S (.int i) .non = some false := rfl
theorem eqT_nb {S : Sto} {i : Bool} : eqT S .non (.bl i) = some false := rfl
theorem eqT_bn {S : Sto} {i : Bool} : eqT S (.bl i) .non = some false := rfl
theorem eqT_ns {S : Sto} {i : Str} : eqT S .non (.str i) = some false := rfl
theorem eqT_sn {S : Sto} {i : Str} : eqT S (.str i) .non = some false := rfl
theorem eqT_is {S : Sto} {i : Int} {s : Str} : eqT S (.int i) (.str s) = some false := rfl
theorem eqT_si {S : Sto} {i : Int} {s : Str} : eqT S (.str s) (.int i) = some false := rfl
theorem sl_0 : (0 ≤ sizeLine) = True := eq_true (by decide)
theorem sm_0 : (0 < sizeLine) = True := eq_true (by decide)
theorem sl_1 : (1 ≤ sizeLine) = True := eq_true (by decide)
theorem sm_1 : (1 < sizeLine) = True := eq_true (by decide)
theorem sl_2 : (2 ≤ sizeLine) = True := eq_true (by decide)
theorem sm_2 : (2 < sizeLine) = True := eq_true (by decide)
theorem sl_3 : (3 ≤ sizeLine) = True := eq_true (by decide)
theorem sm_3 : (3 < sizeLine) = True := eq_true (by decide)
theorem sl_4 : (4 ≤ sizeLine) = True := eq_true (by decide)
theorem sm_4 : (4 < sizeLine) = True := eq_true (by decide)
theorem sl_5 : (5 ≤ sizeLine) = True := eq_true (by decide)
theorem sm_5 : (5 < sizeLine) = True := eq_true (by decide)
theorem sl_6 : (6 ≤ sizeLine) = True := eq_true (by decide)
theorem sm_6 : (6 < sizeLine) = True := eq_true (by decide)
theorem sl_7 : (7 ≤ sizeLine) = True := eq_true (by decide)
theorem sm_7 : (7 < sizeLine) = True := eq_true (by decide)
theorem sl_8 : (8 ≤ sizeLine) = True := eq_true (by decide)
theorem sm_8 : (8 < sizeLine) = True := eq_true (by decide)
theorem sl_9 : (9 ≤ sizeLine) = True := eq_true (by decide)
theorem sm_9 : (9 < sizeLine) = True := eq_true (by decide)
theorem sl_10 : (10 ≤ sizeLine) = True := eq_true (by decide)
theorem sm_10 : (10 < sizeLine) = True := eq_true (by decide)
theorem sl_11 : (11 ≤ sizeLine) = True := eq_true (by decide)
theorem sm_11 : (11 < sizeLine) = True := eq_true (by decide)
theorem sl_12 : (12 ≤ sizeLine) = True := eq_true (by decide)
theorem sm_12 : (12 < sizeLine) = True := eq_true (by decide)
theorem div_ok {i j : Int} (h0 : 0 < j) (h1 : j < 2 ^ 64) : DivOk i j := ⟨h0, Nat.lt_of_lt_of_le (by omega : j.natAbs < 2 ^ 64) (Nat.pow_le_pow_right (by decide) (by decide))⟩
theorem u_whileN (c : NT) (b : NS) (D : NEnds) (n : Nat) (e : Env) (S : Sto) : whileN c b D (n + 1) e S = (c e S fun k S1 => match k with
  | true => b { nx := whileN c b D n, ct := whileN c b D n, bk := D.nx, rt := D.rt } e S1
  | false => D.nx e S1) := id rfl
theorem eqT_t2 {S : Sto} {i j : Int} : eqT S (.tup [.int i, .int j]) (.tup [.int i, .int j]) = some true := by
  unfold eqT
  simp only [pyT, pyD, pyDs, Option.map_some]
  have h : SeqAt.shaped (.tuple [.int i, .int j]) = true := rfl
  rw [h]
  simp [PyData.eqv, PyData.eqvAll]
theorem share_lt {g d k : Int} (h1 : 1 ≤ g) (h2 : 1 ≤ d) (h3 : 0 ≤ k) : g * k / (d + k) < g := by
  refine Int.ediv_lt_of_lt_mul (by omega) ?_
  rw [Int.mul_add]
  have := Int.mul_le_mul h1 h2 (by decide) (by omega)
  omega
theorem share_nn {g d k : Int} (h1 : 0 ≤ g) (h2 : 0 ≤ d) (h3 : 0 ≤ k) : 0 ≤ g * k / (d + k) := Int.ediv_nonneg (Int.mul_nonneg h1 h3) (by omega)
theorem runL_inv {g : NG} {b : NS} {Z : NEnds} {kp : Keep} {T : TgZ g b Z} (Inv : Env → Sto → Prop) (hk : ∀ e S, Inv e S → kp S) (hz : ∀ e S, Inv e S → Z.nx e S) : ∀ {ds : List D} {e : Env} {S : Sto}, Inv e S → (∀ x ∈ ds, ∀ e S (C : Env → Sto → Prop), Inv e S → (∀ e' S', Inv e' S' → C e' S') → g x e S fun e1 S1 => b { nx := C, ct := C, bk := Z.nx, rt := Z.rt } e1 S1) → runL g b Z kp ds e S T
  | [], e, S, h0, _ => hz e S h0
  | x :: ds, e, S, h0, hs => hs x (by simp) e S _ h0 fun e' S' h' => ⟨hk e' S' h', runL_inv (T := .mk) Inv hk hz h' fun y hy => hs y (by simp [hy])⟩
theorem LSt.fresh {a b p : Addr} {ns : List Int} {S : Sto} (h : LSt a b ns S) (hp : S p = none) : p ≠ a ∧ p ≠ b := by
  obtain ⟨_, n, ls, q1, q2, _⟩ := h
  exact ⟨(fun z => by rw [z, q1] at hp; cases hp), (fun z => by rw [z, q2] at hp; cases hp)⟩
theorem str_ok (s : String) : PyData.strOk (Str.ofString s) = true := by
  rw [Str.ofString_eq_toList]
  unfold PyData.strOk
  simp
  intro c _
  have := c.valid
  unfold UInt32.isValidChar Nat.isValidChar at this
  have e : c.toNat = c.val.toNat := rfl
  omega
theorem eqT_tup {S : Sto} {ds : List D} {ps : List PyData} (h : pyDs ds = some ps) (c : PyData.canLayAll0 ps = true) (d : PyData.depthAll ps ≤ 60) : eqT S (.tup ds) (.tup ds) = some true := by
  have c' : PyData.canLay0 (.tuple ps) = true := by simp only [PyData.canLay0]; exact c
  have h2 : SeqAt.shaped (.tuple ps) = true := by
    unfold SeqAt.shaped
    rw [c']
    simp [PyData.depth]
    omega
  unfold eqT
  simp only [pyT, pyD, h, Option.map_some, h2, SeqAt.eqv_refl _ c', Bool.and_self, if_true]
theorem u_runL0 (g : NG) (b : NS) (Z : NEnds) (kp : Keep) (e : Env) (S : Sto) (T : TgZ g b Z) : runL g b Z kp [] e S T = Z.nx e S := id rfl
theorem u_runL1 (g : NG) (b : NS) (Z : NEnds) (kp : Keep) (x : D) (xs : List D) (e : Env) (S : Sto) (T : TgZ g b Z) : runL g b Z kp (x :: xs) e S T = g x e S fun e1 S1 => b { nx := fun e2 S2 => kp S2 ∧ runL g b Z kp xs e2 S2 .mk, ct := fun e2 S2 => kp S2 ∧ runL g b Z kp xs e2 S2 .mk, bk := Z.nx, rt := Z.rt } e1 S1 := id rfl
/-- one turn: what comes behind it is told by I alone -/
theorem runL_cons {g : NG} {b : NS} {Z : NEnds} {kp : Keep} {x : D} {xs : List D} {e : Env} {S : Sto} {T : TgZ g b Z} (I : Env → Sto → Prop) (hI : ∀ e2 S2, I e2 S2 → kp S2 ∧ runL g b Z kp xs e2 S2 .mk) (hs : ∀ C : Env → Sto → Prop, (∀ e2 S2, I e2 S2 → C e2 S2) → g x e S fun e1 S1 => b { nx := C, ct := C, bk := Z.nx, rt := Z.rt } e1 S1) : runL g b Z kp (x :: xs) e S T := hs _ hI
theorem u_runF (sp : NSp) (ds : List D) (S : Sto) (Q : NQ) (E : Str → Option Addr → Sto → Prop) (T : TgQ Q E) : runF sp ds S Q E T = sp ds S Q E := id rfl
/-- a loop by what is left -/
theorem runL_invL {g : NG} {b : NS} {Z : NEnds} {kp : Keep} {T : TgZ g b Z} (Inv : List D → Env → Sto → Prop) (hk : ∀ xs e S, Inv xs e S → kp S) (hz : ∀ e S, Inv [] e S → Z.nx e S) (hs : ∀ x xs e S (C : Env → Sto → Prop), Inv (x :: xs) e S → (∀ e' S', Inv xs e' S' → C e' S') → g x e S fun e1 S1 => b { nx := C, ct := C, bk := Z.nx, rt := Z.rt } e1 S1) : ∀ {ds : List D} {e : Env} {S : Sto}, Inv ds e S → runL g b Z kp ds e S T
  | [], e, S, h0 => hz e S h0
  | x :: ds, e, S, h0 => hs x ds e S _ h0 fun e' S' h' => ⟨hk ds e' S' h', runL_invL (T := .mk) Inv hk hz hs h'⟩
/-! ### comprehensions, walks -/
structure TgC (g : NG) (tt : NT) (te : NE) (Q : Sto → Prop) : Type where
def runC (g : NG) (tt : NT) (te : NE) (kp : Keep) (p : Addr) (e : Env) (ds : List D) (S : Sto) (Q : Sto → Prop) (_ : TgC g tt te Q) : Prop := lcL g tt te kp p e ds S Q
theorem u_mLc (mi : NI) (g : NG) (tt : NT) (te : NE) (vs : List Nat) (e : Env) (S : Sto) (Q : NQ) : mLc mi g tt te vs e S Q = (mi e S fun ds kp S1 => ∀ p, S1 p = none → kp (put S1 p (.lst [])) ∧ runC g tt te kp p (nwipe e vs) ds (put S1 p (.lst [])) (fun S2 => Q (.ref p) S2) .mk) := id rfl
theorem u_nwipe0 (e : Env) : nwipe e [] = e := id rfl
theorem u_nwipe1 (e : Env) (v : Nat) (vs : List Nat) : nwipe e (v :: vs) = (nwipe e vs).set v none := id rfl
theorem u_mYes (e : Env) (S : Sto) (Q : Bool → Sto → Prop) : mYes e S Q = Q true S := id rfl
theorem u_iWalk (m : NE) (e : Env) (S : Sto) (Q : List D → Keep → Sto → Prop) : iWalk m e S Q = (m e S fun x S1 => nWalkA x S1 fun ds kp => Q ds kp S1) := id rfl
theorem u_nWalkA (x : D) (S : Sto) (Q : List D → Keep → Prop) : nWalkA x S Q = (match x with
  | .tup ds => Q ds fun _ => True
  | .rol ds => Q ds fun _ => True
  | .str z => Q (signsD z) fun _ => True
  | .ref p => (match S p with
    | some (.lst ds) => Q ds fun S' => S' p = some (.lst ds)
    | _ => False)
  | _ => False) := id rfl
theorem u_iRg1 (m : NE) (e : Env) (S : Sto) (Q : List D → Keep → Sto → Prop) : iRg1 m e S Q = (m e S fun x S1 => match x with
  | .int j => RngOk j ∧ Q (rangeD 0 j.toNat) (fun _ => True) S1
  | _ => False) := id rfl
theorem u_iRg2 (m m' : NE) (e : Env) (S : Sto) (Q : List D → Keep → Sto → Prop) : iRg2 m m' e S Q = (m e S fun x S1 => m' e S1 fun y S2 => match x, y with
  | .int i, .int j => (RngOk i ∧ RngOk j) ∧ Q (rangeD i (j - i).toNat) (fun _ => True) S2
  | _, _ => False) := id rfl
theorem u_nLstAt (x : D) (S : Sto) (Q : List D → Keep → Prop) : nLstAt x S Q = (match x with
  | .rol ds => Q ds fun _ => True
  | .ref p => (match S p with
    | some (.lst ds) => Q ds fun S' => S' p = some (.lst ds)
    | _ => False)
  | _ => False) := id rfl
theorem u_iEnumN (m : NE) (e : Env) (S : Sto) (Q : List D → Keep → Sto → Prop) : iEnumN m e S Q = (m e S fun x S1 => nLstAt x S1 fun ds kp => Q (enumD ds 0) kp S1) := id rfl
theorem u_iZipN (m m' : NE) (e : Env) (S : Sto) (Q : List D → Keep → Sto → Prop) : iZipN m m' e S Q = (m e S fun x S1 => m' e S1 fun y S2 => nLstAt x S2 fun ds kp => nLstAt y S2 fun es kp' => Q (zipD ds es) (fun S' => kp S' ∧ kp' S') S2) := id rfl
theorem u_sForI (mi : NI) (g : NG) (b : NS) (Z : NEnds) (e : Env) (S : Sto) : sForI mi g b Z e S = (mi e S fun ds kp S1 => runL g b Z kp ds e S1 .mk) := id rfl
theorem u_nSum (d : D) (S : Sto) (Q : NQ) : nSum [d] S Q = (match lstOf S d with
    | some ds => (match intsOf ds with
      | some ns => Q (.int ns.sum) S
      | none => False)
    | none => False) := id rfl
theorem u_nAll (d : D) (S : Sto) (Q : NQ) : nAll [d] S Q = (match lstOf S d with
    | some ds => (match blsOf ds with
      | some ns => Q (.bl (ns.all id)) S
      | none => False)
    | none => False) := id rfl
theorem u_nMaxL (d : D) (S : Sto) (Q : NQ) : nMaxL [d] S Q = (match lstOf S d with
    | some ds => (match intsOf ds with
      | some ns => 0 < ns.length ∧ ∀ m, m ∈ ns → (∀ y, y ∈ ns → y ≤ m) → Q (.int m) S
      | none => False)
    | none => False) := id rfl
theorem u_nIsC (IC : List Str) (a : Addr) (d : Str) (S : Sto) (Q : NQ) : nIsC IC [.ref a, .cls d] S Q = (match S a with
    | some (.ins c _) => IC.contains c = true ∧ IC.contains d = true ∧ Q (.bl (isC c d)) S
    | _ => False) := id rfl
theorem put_put {S : Sto} {p : Addr} {a b : Ob} : put (put S p a) p b = put S p b := by
  funext x
  unfold put
  by_cases h : x = p
  · rw [if_pos h, if_pos h]
  · rw [if_neg h, if_neg h, if_neg h]
/-- a comprehension whose items change nothing -/
theorem lc_pure (f : D → Option D) {g : NG} {tt : NT} {te : NE} {kp : Keep} {p : Addr} {e : Env} {S1 : Sto} {Q : Sto → Prop} (hk : ∀ l, kp (put S1 p (.lst l))) : ∀ {ds acc : List D}, acc.length + ds.length ≤ sizeLine →
    (∀ x ∈ ds, ∀ l (Y : D → Sto → Prop) (N : Sto → Prop), (match f x with | some y => Y y (put S1 p (.lst l)) | none => N (put S1 p (.lst l))) → g x e (put S1 p (.lst l)) fun e2 S2 => tt e2 S2 fun b S3 => match b with | true => te e2 S3 Y | false => N S3) →
    Q (put S1 p (.lst (acc ++ ds.filterMap f))) → lcL g tt te kp p e ds (put S1 p (.lst acc)) Q
  | [], acc, _, _, q => by
    rw [List.filterMap_nil, List.append_nil] at q
    exact q
  | x :: xs, acc, hl, h, q => by
    simp only [List.length_cons] at hl
    refine h x (by simp) acc _ _ ?_
    cases hf : f x with
    | none =>
      refine ⟨hk _, lc_pure f hk (by omega) (fun z hz => h z (by simp [hz])) ?_⟩
      rw [List.filterMap_cons_none hf] at q
      exact q
    | some y =>
      dsimp only
      rw [put_same]
      refine ⟨by omega, ?_, ?_⟩
      · rw [put_put]; exact hk _
      · rw [put_put]
        refine lc_pure f hk (by simp only [List.length_append, List.length_cons, List.length_nil]; omega) (fun z hz => h z (by simp [hz])) ?_
        rw [List.filterMap_cons_some hf] at q
        rw [List.append_assoc]
        exact q
theorem runC_pure (f : D → Option D) {g : NG} {tt : NT} {te : NE} {kp : Keep} {p : Addr} {e : Env} {S1 : Sto} {Q : Sto → Prop} {T : TgC g tt te Q} {ds : List D} (hk : ∀ l, kp (put S1 p (.lst l))) (hl : ds.length ≤ sizeLine)
    (h : ∀ x ∈ ds, ∀ l (Y : D → Sto → Prop) (N : Sto → Prop), (match f x with | some y => Y y (put S1 p (.lst l)) | none => N (put S1 p (.lst l))) → g x e (put S1 p (.lst l)) fun e2 S2 => tt e2 S2 fun b S3 => match b with | true => te e2 S3 Y | false => N S3)
    (q : Q (put S1 p (.lst (ds.filterMap f)))) : runC g tt te kp p e ds (put S1 p (.lst [])) Q T := lc_pure f hk (by simpa using hl) h (by simpa using q)
theorem u_nRevP (x y : D) (S : Sto) (Q : NQ) : nRevP (.tup [x, y]) S Q = Q (.tup [y, x]) S := id rfl
theorem u_nMax1L (a : Addr) (S : Sto) (Q : NQ) : nMax1 [.ref a] S Q = nMaxL [.ref a] S Q := id rfl
theorem u_nMax1T (i : Int) (r : List D) (S : Sto) (Q : NQ) : nMax1 [.tup (.int i :: r)] S Q = (match intsOf r with
    | some ns => ns.length ≤ 100 ∧ Q (.int (ns.foldl max i)) S
    | none => False) := id rfl
theorem u_nMinT (i : Int) (r : List D) (S : Sto) (Q : NQ) : nMinT [.tup (.int i :: r)] S Q = (match intsOf r with
    | some ns => ns.length ≤ 100 ∧ Q (.int (ns.foldl min i)) S
    | none => False) := id rfl
theorem u_sPar (i j : Nat) (ma mb : NE) (Z : NEnds) (e : Env) (S : Sto) : sPar i j ma mb Z e S = (ma e S fun x S1 => mb e S1 fun y S2 => Z.nx ((e.set i (some x)).set j (some y)) S2) := id rfl
theorem Upd.fresh' {A : List Addr} {S S' : Sto} {p : Addr} (u : Upd A S S') (hp : S' p = Option.none) (np : p ∉ A) : S p = Option.none := by
  cases e : S p with
  | none => rfl
  | some o => rw [u p o np e] at hp; cases hp
theorem Upd.putF {A : List Addr} {S S' : Sto} {p : Addr} {o : Ob} (u : Upd A S S') (hp : S p = Option.none) : Upd A S (put S' p o) := fun b ob hb e => by
  have : b ≠ p := fun z => by rw [z, hp] at e; cases e
  rw [put_ne this]; exact u b ob hb e
end N

set_option Elab.async false
set_option linter.all false
set_option maxRecDepth 100000
namespace N
open PySem PySem.Spec PyProof.Rows L2
/-! ### the lambdas and texts, unfolded -/
structure TgA (act : NSp) (Q : NQ) (E : Str → Option Addr → Sto → Prop) : Type where
def runA (spT : NSp → NSp) (act : NSp) (S : Sto) (Q : NQ) (E : Str → Option Addr → Sto → Prop) (_ : TgA act Q E) : Prop := spT act [] S Q E
theorem u_mLam (spT : NSp → NSp) (w : NW) (mb : NW → NE) (e : Env) (S : Sto) (Q : NQ) : mLam spT w mb e S Q = runA spT (fun _ S' Q' E' => mb (fun c d _ S2 => E' c d S2) e S' Q') S Q (fun c d S' => w c d e S') .mk := id rfl
theorem u_mAct (i : Nat) (f : Addr) (act : NSp) (w : NW) (e : Env) (S : Sto) (Q : NQ) : mAct i f act w e S Q = (e[i]? = some (some (.ref f)) ∧ runF act [] S Q (fun c d S' => w c d e S') .mk) := id rfl
theorem u_spAct (N : Nat) (mT : Addr → NSp → NW → NS) (act : NSp) (ds : List D) (S : Sto) (Q : NQ) (E : Str → Option Addr → Sto → Prop) : spAct N mT act ds S Q E = (∀ f, S f = none → mT f act (fun c d _ S' => E c d S') { nx := fun _ S' => Q .non S', rt := Q } (startN N [.ref f]) S) := id rfl
theorem u_runA (spT : NSp → NSp) (act : NSp) (S : Sto) (Q : NQ) (E : Str → Option Addr → Sto → Prop) (T : TgA act Q E) : runA spT act S Q E T = spT act [] S Q E := id rfl
theorem u_mM1 (n : D → D → Sto → NQ → Prop) (mo me : NE) (e : Env) (S : Sto) (Q : NQ) : mM1 n mo me e S Q = (mo e S fun x S1 => match x with
  | .str a => me e S1 fun y S2 => n (.str a) y S2 Q
  | _ => False) := id rfl
theorem u_nJoin (a : Str) (y : D) (S : Sto) (Q : NQ) : nJoin (.str a) y S Q = (match seqOf S y with
  | some ds => (match strsOf ds with
    | some ss => (ss.map (·.length)).sum + ss.length * a.length ≤ 16777216 ∧ Q (.str (Txt.join a ss)) S
    | none => False)
  | none => False) := id rfl
theorem u_nSplit (a b : Str) (S : Sto) (Q : NQ) : nSplit (.str a) (.str b) S Q = ((b.length == 0) = false ∧ a.length + 2 ≤ sizeLine ∧ ∀ p, S p = none → Q (.ref p) (put S p (.lst ((Txt.split a b).map D.str)))) := id rfl
theorem u_nPart (a b : Str) (S : Sto) (Q : NQ) : nPart (.str a) (.str b) S Q = ((b.length == 0) = false ∧ a.length ≤ sizeLine ∧ Q (.tup [.str (Txt.partition a b).1, .str (Txt.partition a b).2.1, .str (Txt.partition a b).2.2]) S) := id rfl
theorem u_mTabGet (kvs : List (Str × Int)) (me mf : NE) (e : Env) (S : Sto) (Q : NQ) : mTabGet kvs me mf e S Q = (me e S fun x S1 => mf e S1 fun y S2 => match x with
  | .str z => (match kvs.lookup z with
    | some i => Q (.int i) S2
    | none => Q y S2)
  | _ => False) := id rfl
theorem u_sRaiseX (c f : Str) (m : NE) (w : NW) (Z : NEnds) (e : Env) (S : Sto) : sRaiseX c f m w Z e S = (m e S fun y S1 => ∀ d, S1 d = none → w c (some d) e (put S1 d (.xd [(f, y)]))) := id rfl
theorem u_iKeysN (m : NE) (e : Env) (S : Sto) (Q : List D → Keep → Sto → Prop) : iKeysN m e S Q = (m e S fun x S1 => match lokOf S1 x with
  | some kvs => Q (kvs.map fun kv => kD kv.1) (fun _ => True) S1
  | none => False) := id rfl
theorem u_iValsN (m : NE) (e : Env) (S : Sto) (Q : List D → Keep → Sto → Prop) : iValsN m e S Q = (m e S fun x S1 => match lokOf S1 x with
  | some kvs => Q (kvs.map fun kv => kv.2) (fun _ => True) S1
  | none => False) := id rfl
theorem u_iItemsN (m : NE) (e : Env) (S : Sto) (Q : List D → Keep → Sto → Prop) : iItemsN m e S Q = (m e S fun x S1 => match lokOf S1 x with
  | some kvs => Q (kvs.map fun kv => .tup [kD kv.1, kv.2]) (fun _ => True) S1
  | none => False) := id rfl
theorem u_nListD (d : D) (S : Sto) (Q : NQ) : nListD [d] S Q = (match dicOf S d with
  | some kvs => ∀ p, S p = none → Q (.ref p) (put S p (.lst (kvs.map fun kv => kD kv.1)))
  | none => nList1 [d] S Q) := id rfl
theorem u_mListVals (me : NE) (e : Env) (S : Sto) (Q : NQ) : mListVals me e S Q = (me e S fun x S1 => match dicOf S1 x with
  | some kvs => ∀ p, S1 p = none → Q (.ref p) (put S1 p (.lst (kvs.map fun kv => kv.2)))
  | none => False) := id rfl
theorem u_nExtend (p b : Addr) (S : Sto) (Q : NQ) : nExtend (.ref p) [.ref b] S Q = (match S p, S b with
  | some (.lst ds), some (.lst es) => ds.length + es.length ≤ sizeLine ∧ Q .non (put S p (.lst (ds ++ es)))
  | _, _ => False) := id rfl
theorem u_mMethD (m : Str) (mt : MT) (i : Int) (w : NW) (mo : NE) (mr : NA) (e : Env) (S : Sto) (Q : NQ) : mMethD m mt i w mo mr e S Q = (mo e S fun x S1 => match x with
  | .ref p => (match S1 p with
    | some (.ins c fs) => fs.lookup m = none ∧ (match mt c with
      | some (n, sp) => mr e S1 fun ds S2 => ds.length + 2 = n ∧ runF sp (.ref p :: (ds ++ [.int i])) S2 Q (fun c d S3 => w c d e S3) .mk
      | none => False)
    | _ => False)
  | _ => False) := id rfl
theorem u_nEqG (x y : D) (S : Sto) (Q : NQ) : nEqG x y S Q = (match eqG S x y with
  | some b => Q (.bl b) S
  | none => False) := id rfl
theorem u_nNeG (x y : D) (S : Sto) (Q : NQ) : nNeG x y S Q = (match eqG S x y with
  | some b => Q (.bl (!b)) S
  | none => False) := id rfl
theorem u_nEqL (x y : D) (S : Sto) (Q : NQ) : nEqL x y S Q = (match eqU S x y with
  | some b => Q (.bl b) S
  | none => False) := id rfl
theorem u_nNeL (x y : D) (S : Sto) (Q : NQ) : nNeL x y S Q = (match eqU S x y with
  | some b => Q (.bl (!b)) S
  | none => False) := id rfl
theorem u_nEqX (x y : D) (S : Sto) (Q : NQ) : nEqX x y S Q = (match dic1 S x, dic1 S y with
  | some ks, some ls => (match eqDic ks ls with
    | some b => Q (.bl b) S
    | none => False)
  | _, _ => nEq x y S Q) := id rfl
theorem u_nNeX (x y : D) (S : Sto) (Q : NQ) : nNeX x y S Q = (match dic1 S x, dic1 S y with
  | some ks, some ls => (match eqDic ks ls with
    | some b => Q (.bl (!b)) S
    | none => False)
  | _, _ => nNe x y S Q) := id rfl
/-- the expression is told while the dict at p is locked: by hand -/
theorem u_mLock (m : NE) (e : Env) (S : Sto) (Q : NQ) : mLock m e S Q = ∃ p kvs, S p = some (.dic kvs) ∧ m e (put S p (.lok kvs)) fun d S' => Q d (put S' p (.dic kvs)) := id rfl
theorem lock_e {m : NE} {e : Env} {S : Sto} {Q : NQ} {p : Addr} {kvs : List (Key × D)} (h : S p = some (.dic kvs)) (q : m e (put S p (.lok kvs)) fun d S' => Q d (put S' p (.dic kvs))) : mLock m e S Q := ⟨p, kvs, h, q⟩
theorem lock_s {t : NS} {Z : NEnds} {e : Env} {S : Sto} {p : Addr} {kvs : List (Key × D)} (h : S p = some (.dic kvs)) (q : t { nx := fun e' S' => Z.nx e' (put S' p (.dic kvs)), rt := fun d S' => Z.rt d (put S' p (.dic kvs)), bk := fun e' S' => Z.bk e' (put S' p (.dic kvs)), ct := fun e' S' => Z.ct e' (put S' p (.dic kvs)) } e (put S p (.lok kvs))) : sLock t Z e S := ⟨p, kvs, h, q⟩
/-- locked and unlocked again: all stays -/
theorem lock_back {S : Sto} {p : Addr} {kvs : List (Key × D)} (h : S p = some (.dic kvs)) : put (put S p (.lok kvs)) p (.dic kvs) = S := by
  funext a
  by_cases e : a = p
  · rw [e, put_same, h]
  · rw [put_ne e, put_ne e]
theorem lock_upd {A : List Addr} {S S' : Sto} {p : Addr} {kvs : List (Key × D)} (h : S p = some (.dic kvs)) (u : Upd A (put S p (.lok kvs)) S') : Upd A S (put S' p (.dic kvs)) := fun a o n e => by
  by_cases ea : a = p
  · rw [ea] at e ⊢
    rw [h] at e
    rw [put_same]; exact e
  · rw [put_ne ea]
    exact u a o n (by rw [put_ne ea]; exact e)
theorem u_mOrT (m n : NE) (e : Env) (S : Sto) (Q : NQ) : mOrT m n e S Q = (m e S fun d S1 => match truD d with
  | some true => Q d S1
  | some false => n e S1 Q
  | none => False) := id rfl
theorem u_nMulS (x y : D) (S : Sto) (Q : NQ) : nMulS x y S Q = (match x, y with
  | .str z, .int i => (0 ≤ i ∧ i ≤ 1000 ∧ z.length ≤ 1000) ∧ Q (.str (Txt.mul z i)) S
  | _, _ => False) := id rfl
theorem u_nMulL (x y : D) (S : Sto) (Q : NQ) : nMulL x y S Q = (match x, y with
  | .ref a, .int i => (match S a with
    | some (.lst xs) => (0 ≤ i ∧ i ≤ 1000 ∧ xs.length ≤ 1000) ∧ ∀ p, S p = none → Q (.ref p) (put S p (.lst (List.replicate i.toNat xs).flatten))
    | _ => False)
  | _, _ => False) := id rfl
end N

set_option linter.all false
set_option maxRecDepth 100000
namespace K12
open PySem N
def CL : List Str := ["BadMaker", "BadWare", "BadCount", "TooMuch", "BadShares", "NoText", "NoName", "TooLittle", "BadRumour", "NoParting", "NoLine"]
def IC : List Str := []
def c_SIZES : List (Str × Int) := [("product", 6), ("stretch", 8), ("sum", 8)]
def c_WARES : List Str := ["salt", "cloth"]
/-- _law_mixed(_law_cell, _law_k) : 0=_law_cell 1=_law_k -/
def m__law_mixed (w : NW) : NS :=
    (sRet (mOp nMod (mOp nMul (mOp nMod (mOp nAdd (mOp nAdd (mOp nMul (mVar 0) (mOp nAdd (mC (.int 48271)) (mOp nMul (mOp nMul (mC (.int 2)) (mVar 1)) (mVar 1)))) (mOp nMul (mC (.int 69621)) (mVar 1))) (mC (.int 11))) (mC (.int 2147483647))) (mC (.int 69621))) (mC (.int 2147483629))))
@[irreducible] def sp__law_mixed : NSp := spOf 2 m__law_mixed
/-- _law_next(_law_state_here) : 0=_law_state_here 1=_law_k 2=_law_at 3=_law_number -/
def m__law_next (w : NW) : NS :=
    (sSeq (sAsg (mOp nAdd (mOp nIx (mVar 0) (mC (.str "at"))) (mC (.int 1))) (gIx (mVar 0) (mC (.str "at"))))
    (sSeq (sSet 1 (mOp nIx (mVar 0) (mC (.str "at"))))
    (sSeq (sIf (mTst (mOp nEq (mOp nIx (mVar 0) (mC (.str "cells"))) (mLst mNil)))
    (sRet (mCall 2 sp__law_mixed w (mCons (mOp nMul (mC (.int 7919)) (mVar 1)) (mCons (mOp nMod (mVar 1) (mC (.int 1000))) mNil))))
    sNext)
    (sSeq (sSet 2 (mOp nMod (mVar 1) (mCallB nLen (mCons (mOp nIx (mVar 0) (mC (.str "cells"))) mNil))))
    (sSeq (sIf (mAnd (mTst (mOp nGe (mOp nIx (mOp nIx (mVar 0) (mC (.str "cells"))) (mVar 2)) (mOp nPow (mC (.int 10)) (mC (.int 18))))) (mTst (mOp nGt (mOp nIx (mOp nIx (mVar 0) (mC (.str "left"))) (mVar 2)) (mC (.int 0)))))
    (sSeq (sSet 3 (mOp nMod (mOp nIx (mOp nIx (mVar 0) (mC (.str "left"))) (mVar 2)) (mC (.int 2147483647))))
    (sSeq (sAsg (mOp nDiv (mOp nIx (mOp nIx (mVar 0) (mC (.str "left"))) (mVar 2)) (mC (.int 2147483647))) (gIx (mOp nIx (mVar 0) (mC (.str "left"))) (mVar 2)))
    (sRet (mVar 3))))
    sNext)
    (sRet (mCall 2 sp__law_mixed w (mCons (mOp nAdd (mOp nIx (mOp nIx (mVar 0) (mC (.str "cells"))) (mVar 2)) (mOp nMul (mC (.int 7919)) (mVar 1))) (mCons (mOp nMod (mVar 1) (mC (.int 1000))) mNil)))))))))
@[irreducible] def sp__law_next : NSp := spOf 4 m__law_next
/-- Maker_called(self) : 0=self -/
def m_Maker_called (w : NW) : NS :=
    (sRet (mC (.str "product")))
@[irreducible] def sp_Maker_called : NSp := spOf 1 m_Maker_called
/-- Stretch_called(self) : 0=self -/
def m_Stretch_called (w : NW) : NS :=
    (sRet (mC (.str "stretch")))
@[irreducible] def sp_Stretch_called : NSp := spOf 1 m_Stretch_called
/-- Sum_called(self) : 0=self -/
def m_Sum_called (w : NW) : NS :=
    (sRet (mC (.str "sum")))
@[irreducible] def sp_Sum_called : NSp := spOf 1 m_Sum_called
def mt_Maker_called : MT := fun c => if c = "Product" then some (1, sp_Maker_called) else if c = "Stretch" then some (1, sp_Stretch_called) else if c = "Sum" then some (1, sp_Sum_called) else none
/-- Maker_plain(self) : 0=self -/
def m_Maker_plain (w : NW) : NS :=
    (sRet (mOp nAdd (mTup (mCons (mMeth "called" mt_Maker_called w (mVar 0) mNil) (mCons (mOp nIx (mUn (nFld "stock") (mVar 0)) (mC (.int 0))) (mCons (mOp nIx (mUn (nFld "stock") (mVar 0)) (mC (.int 1))) (mCons (mUn (nFld "due") (mVar 0)) mNil))))) (mUn (nFld "more") (mVar 0))))
@[irreducible] def sp_Maker_plain : NSp := spOf 1 m_Maker_plain
/-- hand_row(name, purse) : 0=name 1=purse -/
def m_hand_row (w : NW) : NS :=
    (sRet (mM1 nJoin (mC (.str " ")) (mLst (mCons (mC (.str "hand")) (mCons (mVar 0) (mCons (mCallB nStr1 (mCons (mOp nIx (mVar 1) (mC (.int 0))) mNil)) (mCons (mCallB nStr1 (mCons (mOp nIx (mVar 1) (mC (.int 1))) mNil)) mNil)))))))
@[irreducible] def sp_hand_row : NSp := spOf 2 m_hand_row
/-- maker_row(name, plain) : 0=name 1=plain 2=sort 3=salt 4=cloth 5=due 6=words 7=pair -/
def m_maker_row (w : NW) : NS :=
    (sSeq (sAsg (mSl (mVar 1) mNoPart (mPart (mC (.int 4)))) (gTp 4 (gsCons (gNm 2) (gsCons (gNm 3) (gsCons (gNm 4) (gsCons (gNm 5) gsNil))))))
    (sSeq (sSet 6 (mLst (mCons (mC (.str "maker")) (mCons (mVar 0) (mCons (mVar 2) (mCons (mCallB nStr1 (mCons (mVar 3) mNil)) (mCons (mCallB nStr1 (mCons (mVar 4) mNil)) (mCons (mOp nAdd (mOp nAdd (mCallB nStr1 (mCons (mOp nIx (mVar 5) (mC (.int 0))) mNil)) (mC (.str "/"))) (mCallB nStr1 (mCons (mOp nIx (mVar 5) (mC (.int 1))) mNil))) mNil))))))))
    (sSeq (sFor (mSl (mVar 1) (mPart (mC (.int 4))) mNoPart) (gNm 7)
    (sDrop (mLm nExtend (mVar 6) (mCons (mLst (mCons (mCallB nStr1 (mCons (mOp nIx (mVar 7) (mC (.int 0))) mNil)) (mCons (mCallB nStr1 (mCons (mOp nIx (mVar 7) (mC (.int 1))) mNil)) mNil))) mNil))))
    (sRet (mM1 nJoin (mC (.str " ")) (mVar 6))))))
@[irreducible] def sp_maker_row : NSp := spOf 8 m_maker_row
def mt_Maker_plain : MT := fun c => if c = "Product" then some (1, sp_Maker_plain) else if c = "Stretch" then some (1, sp_Maker_plain) else if c = "Sum" then some (1, sp_Maker_plain) else none
/-- Market_text(self) : 0=self 1=rows 2=name 3=maker 4=purse -/
def m_Market_text (w : NW) : NS :=
    (sSeq (sLock (sSet 1 (mLc (iItemsN (mUn (nFld "stalls") (mVar 0))) (gTp 2 (gsCons (gNm 2) (gsCons (gNm 3) gsNil))) mYes (mCall 2 sp_maker_row nw0 (mCons (mVar 2) (mCons (mMeth "plain" mt_Maker_plain nw0 (mVar 3) mNil) mNil))) [2, 3])))
    (sSeq (sDrop (mLm nExtend (mVar 1) (mCons (mLock (mLc (iItemsN (mUn (nFld "pockets") (mVar 0))) (gTp 2 (gsCons (gNm 2) (gsCons (gNm 4) gsNil))) mYes (mCall 2 sp_hand_row nw0 (mCons (mVar 2) (mCons (mVar 4) mNil))) [2, 4])) mNil)))
    (sRet (mM1 nJoin (mC (.str "\n")) (mVar 1)))))
@[irreducible] def sp_Market_text : NSp := spOf 5 m_Market_text
/-- _law_word(_law_e) : 0=_law_e 1=_law_found 2=_law_words 3=_law_word_here 4=_law_is_so -/
def m__law_word (w : NW) : NS :=
    (sSeq (sSet 1 (mLst (mCons (mTup (mCons (mC (.str "maker")) (mCons (mCallB (nIsi CL) (mCons (mVar 0) (mCons (mC (.cls "BadMaker")) mNil))) mNil))) (mCons (mTup (mCons (mC (.str "ware")) (mCons (mCallB (nIsi CL) (mCons (mVar 0) (mCons (mC (.cls "BadWare")) mNil))) mNil))) mNil))))
    (sSeq (sSet 1 (mOp nAdd (mVar 1) (mLst (mCons (mTup (mCons (mC (.str "count")) (mCons (mCallB (nIsi CL) (mCons (mVar 0) (mCons (mC (.cls "BadCount")) mNil))) mNil))) (mCons (mTup (mCons (mC (.str "much")) (mCons (mCallB (nIsi CL) (mCons (mVar 0) (mCons (mC (.cls "TooMuch")) mNil))) mNil))) mNil)))))
    (sSeq (sSet 1 (mOp nAdd (mVar 1) (mLst (mCons (mTup (mCons (mC (.str "shares")) (mCons (mCallB (nIsi CL) (mCons (mVar 0) (mCons (mC (.cls "BadShares")) mNil))) mNil))) (mCons (mTup (mCons (mC (.str "text")) (mCons (mCallB (nIsi CL) (mCons (mVar 0) (mCons (mC (.cls "NoText")) mNil))) mNil))) mNil)))))
    (sSeq (sSet 1 (mOp nAdd (mVar 1) (mLst (mCons (mTup (mCons (mC (.str "name")) (mCons (mCallB (nIsi CL) (mCons (mVar 0) (mCons (mC (.cls "NoName")) mNil))) mNil))) (mCons (mTup (mCons (mC (.str "little")) (mCons (mCallB (nIsi CL) (mCons (mVar 0) (mCons (mC (.cls "TooLittle")) mNil))) mNil))) mNil)))))
    (sSeq (sSet 1 (mOp nAdd (mVar 1) (mLst (mCons (mTup (mCons (mC (.str "rumour")) (mCons (mCallB (nIsi CL) (mCons (mVar 0) (mCons (mC (.cls "BadRumour")) mNil))) mNil))) (mCons (mTup (mCons (mC (.str "parting")) (mCons (mCallB (nIsi CL) (mCons (mVar 0) (mCons (mC (.cls "NoParting")) mNil))) mNil))) mNil)))))
    (sSeq (sSet 1 (mOp nAdd (mVar 1) (mLst (mCons (mTup (mCons (mC (.str "line")) (mCons (mCallB (nIsi CL) (mCons (mVar 0) (mCons (mC (.cls "NoLine")) mNil))) mNil))) (mCons (mTup (mCons (mC (.str "other")) (mCons (mNotV (mCallB (nIsi CL) (mCons (mVar 0) (mCons (mC (.ty "ValueError")) mNil)))) mNil))) mNil)))))
    (sSeq (sSet 2 (mLc (iWalk (mVar 1)) (gTp 2 (gsCons (gNm 3) (gsCons (gNm 4) gsNil))) (mTst (mVar 4)) (mVar 3) [3, 4]))
    (sRet (mIf (mTst (mOp nEq (mCallB nLen (mCons (mVar 2) mNil)) (mC (.int 1)))) (mOp nIx (mVar 2) (mC (.int 0))) (mC (.str "other")))))))))))
@[irreducible] def sp__law_word : NSp := spOf 5 m__law_word
/-- Market___init__(self) : 0=self -/
def m_Market___init__ (w : NW) : NS :=
    (sSeq (sFldN "stalls" mDic0 (mVar 0))
    (sFldN "pockets" mDic0 (mVar 0)))
@[irreducible] def sp_Market___init__ : NSp := spOf 1 m_Market___init__
/-- is_name(word) : 0=word 1=sign -/
def m_is_name (w : NW) : NS :=
    (sRet (mAndV (mChain nLe nLe (mC (.int 1)) (mCallB nLen (mCons (mVar 0) mNil)) (mC (.int 8))) (mCallB nAll (mCons (mLc (iWalk (mVar 0)) (gNm 1) mYes (mOp nIn (mVar 1) (mC (.str "abcdefghijklmnopqrstuvwxyz"))) [1]) mNil))))
@[irreducible] def sp_is_name : NSp := spOf 2 m_is_name
/-- number_in(word) : 0=word 1=sign -/
def m_number_in (w : NW) : NS :=
    (sSeq (sIf (mOr (mNot (mTst (mChain nLe nLe (mC (.int 1)) (mCallB nLen (mCons (mVar 0) mNil)) (mC (.int 13))))) (mNot (mTst (mCallB nAll (mCons (mLc (iWalk (mVar 0)) (gNm 1) mYes (mOp nIn (mVar 1) (mC (.str "0123456789"))) [1]) mNil)))))
    (sRet (mC .non))
    sNext)
    (sSeq (sIf (mAnd (mTst (mOp nEq (mOp nIx (mVar 0) (mC (.int 0))) (mC (.str "0")))) (mTst (mOp nNe (mVar 0) (mC (.str "0")))))
    (sRet (mC .non))
    sNext)
    (sRet (mCallB nInt1 (mCons (mVar 0) mNil)))))
@[irreducible] def sp_number_in : NSp := spOf 2 m_number_in
/-- put_hand(market, words) : 0=market 1=words 2=purse -/
def m_put_hand (w : NW) : NS :=
    (sSeq (sIf (mOr (mTst (mOp nNe (mCallB nLen (mCons (mVar 1) mNil)) (mC (.int 4)))) (mOr (mTst (mOp nEq (mCallB nLen (mCons (mUn (nFld "pockets") (mVar 0)) mNil)) (mC (.int 6)))) (mTst (mOp nEqX (mUn (nFld "stalls") (mVar 0)) mDic0))))
    (sRet (mC (.bl false)))
    sNext)
    (sSeq (sSet 2 (mTup (mCons (mCall 1 sp_number_in w (mCons (mOp nIx (mVar 1) (mC (.int 2))) mNil)) (mCons (mCall 1 sp_number_in w (mCons (mOp nIx (mVar 1) (mC (.int 3))) mNil)) mNil))))
    (sSeq (sIf (mOr (mTst (mOp nIn (mC .non) (mVar 2))) (mTst (mOp nGt (mCallB nMax1 (mCons (mVar 2) mNil)) (mC (.int 1000000000000)))))
    (sRet (mC (.bl false)))
    sNext)
    (sSeq (sAsg (mVar 2) (gIx (mUn (nFld "pockets") (mVar 0)) (mOp nIx (mVar 1) (mC (.int 1)))))
    (sRet (mC (.bl true)))))))
@[irreducible] def sp_put_hand : NSp := spOf 3 m_put_hand
/-- Maker___init__(self, plain) : 0=self 1=plain -/
def m_Maker___init__ (w : NW) : NS :=
    (sSeq (sFldN "stock" (mLst (mCons (mOp nIx (mVar 1) (mC (.int 1))) (mCons (mOp nIx (mVar 1) (mC (.int 2))) mNil))) (mVar 0))
    (sSeq (sFldN "due" (mOp nIx (mVar 1) (mC (.int 3))) (mVar 0))
    (sSeq (sFldN "more" (mSl (mVar 1) (mPart (mC (.int 4))) mNoPart) (mVar 0))
    (sSeq (sFldN "rest" (mOp nSub (mOp nIx (mOp nIx (mVar 1) (mC (.int 3))) (mC (.int 1))) (mOp nIx (mOp nIx (mVar 1) (mC (.int 3))) (mC (.int 0)))) (mVar 0))
    (sFldN "parts" (mOp nIx (mOp nIx (mVar 1) (mC (.int 3))) (mC (.int 1))) (mVar 0))))))
@[irreducible] def sp_Maker___init__ : NSp := spOf 2 m_Maker___init__
/-- is_whole(thing) : 0=thing -/
def m_is_whole (w : NW) : NS :=
    (sRet (mAndV (mCallB (nIsi CL) (mCons (mVar 0) (mCons (mC (.ty "int")) mNil))) (mNotV (mCallB (nIsi CL) (mCons (mVar 0) (mCons (mC (.ty "bool")) mNil))))))
@[irreducible] def sp_is_whole : NSp := spOf 1 m_is_whole
/-- is_among(thing, least, most) : 0=thing 1=least 2=most -/
def m_is_among (w : NW) : NS :=
    (sRet (mAndV (mCall 1 sp_is_whole w (mCons (mVar 0) mNil)) (mChain nLe nLe (mVar 1) (mVar 0) (mVar 2))))
@[irreducible] def sp_is_among : NSp := spOf 3 m_is_among
/-- is_pair(thing, least, most) : 0=thing 1=least 2=most -/
def m_is_pair (w : NW) : NS :=
    (sSeq (sIf (mOr (mNot (mTst (mCallB (nIsi CL) (mCons (mVar 0) (mCons (mC (.ty "tuple")) mNil))))) (mTst (mOp nNe (mCallB nLen (mCons (mVar 0) mNil)) (mC (.int 2)))))
    (sRet (mC (.bl false)))
    sNext)
    (sRet (mAndV (mCall 3 sp_is_among w (mCons (mOp nIx (mVar 0) (mC (.int 0))) (mCons (mVar 1) (mCons (mVar 2) mNil)))) (mCall 3 sp_is_among w (mCons (mOp nIx (mVar 0) (mC (.int 1))) (mCons (mVar 1) (mCons (mVar 2) mNil)))))))
@[irreducible] def sp_is_pair : NSp := spOf 3 m_is_pair
/-- is_due(thing) : 0=thing -/
def m_is_due (w : NW) : NS :=
    (sRet (mAndV (mCall 3 sp_is_pair w (mCons (mVar 0) (mCons (mC (.int 0)) (mCons (mC (.int 10000)) mNil)))) (mAndV (mOp nGe (mOp nIx (mVar 0) (mC (.int 1))) (mC (.int 1))) (mOp nLe (mOp nMul (mC (.int 10)) (mOp nIx (mVar 0) (mC (.int 0)))) (mOp nIx (mVar 0) (mC (.int 1)))))))
@[irreducible] def sp_is_due : NSp := spOf 1 m_is_due
/-- is_plain(thing) : 0=thing -/
def m_is_plain (w : NW) : NS :=
    (sSeq (sIf (mOr (mNot (mTst (mCallB (nIsi CL) (mCons (mVar 0) (mCons (mC (.ty "tuple")) mNil))))) (mOr (mNot (mTst (mChain nLe nLe (mC (.int 4)) (mCallB nLen (mCons (mVar 0) mNil)) (mC (.int 5))))) (mNot (mTst (mCallB (nIsi CL) (mCons (mOp nIx (mVar 0) (mC (.int 0))) (mCons (mC (.ty "str")) mNil)))))))
    (sRet (mC (.bl false)))
    sNext)
    (sSeq (sIf (mOr (mNot (mTst (mCall 3 sp_is_pair w (mCons (mSl (mVar 0) (mPart (mC (.int 1))) (mPart (mC (.int 3)))) (mCons (mC (.int 0)) (mCons (mC (.int 1000000000000)) mNil)))))) (mNot (mTst (mCall 1 sp_is_due w (mCons (mOp nIx (mVar 0) (mC (.int 3))) mNil)))))
    (sRet (mC (.bl false)))
    sNext)
    (sSeq (sIf (mTst (mOp nEq (mOp nIx (mVar 0) (mC (.int 0))) (mC (.str "product"))))
    (sRet (mAndV (mOp nEq (mCallB nLen (mCons (mVar 0) mNil)) (mC (.int 4))) (mAndV (mOp nGe (mOp nIx (mVar 0) (mC (.int 1))) (mC (.int 1))) (mOp nGe (mOp nIx (mVar 0) (mC (.int 2))) (mC (.int 1))))))
    sNext)
    (sSeq (sIf (mTst (mOp nNe (mCallB nLen (mCons (mVar 0) mNil)) (mC (.int 5))))
    (sRet (mC (.bl false)))
    sNext)
    (sSeq (sIf (mTst (mOp nEq (mOp nIx (mVar 0) (mC (.int 0))) (mC (.str "sum"))))
    (sRet (mCall 3 sp_is_pair w (mCons (mOp nIx (mVar 0) (mC (.int 4))) (mCons (mC (.int 1)) (mCons (mC (.int 1000000)) mNil)))))
    sNext)
    (sSeq (sIf (mOr (mTst (mOp nNe (mOp nIx (mVar 0) (mC (.int 0))) (mC (.str "stretch")))) (mNot (mTst (mCall 3 sp_is_pair w (mCons (mOp nIx (mVar 0) (mC (.int 4))) (mCons (mC (.int 0)) (mCons (mC (.int 1000000000000)) mNil)))))))
    (sRet (mC (.bl false)))
    sNext)
    (sRet (mAndV (mOp nGe (mOp nAdd (mOp nIx (mVar 0) (mC (.int 1))) (mOp nIx (mOp nIx (mVar 0) (mC (.int 4))) (mC (.int 0)))) (mC (.int 1))) (mOp nGe (mOp nAdd (mOp nIx (mVar 0) (mC (.int 2))) (mOp nIx (mOp nIx (mVar 0) (mC (.int 4))) (mC (.int 1)))) (mC (.int 1)))))))))))
@[irreducible] def sp_is_plain : NSp := spOf 1 m_is_plain
/-- maker_of(plain) : 0=plain -/
def m_maker_of (w : NW) : NS :=
    (sSeq (sIf (mNot (mTst (mCall 1 sp_is_plain w (mCons (mVar 0) mNil))))
    (sRaise "BadMaker" w)
    sNext)
    (sSeq (sIf (mTst (mOp nEq (mOp nIx (mVar 0) (mC (.int 0))) (mC (.str "product"))))
    (sRet (mMake "Product" 2 sp_Maker___init__ w (mCons (mVar 0) mNil)))
    sNext)
    (sSeq (sIf (mTst (mOp nEq (mOp nIx (mVar 0) (mC (.int 0))) (mC (.str "stretch"))))
    (sRet (mMake "Stretch" 2 sp_Maker___init__ w (mCons (mVar 0) mNil)))
    sNext)
    (sRet (mMake "Sum" 2 sp_Maker___init__ w (mCons (mVar 0) mNil))))))
@[irreducible] def sp_maker_of : NSp := spOf 1 m_maker_of
/-- made_or_none(plain) : 0=plain 1=found -/
def m_made_or_none (w : NW) : NS :=
    (sSeq (sTryO CL "BadMaker" (fun w => (sSet 1 (mCall 1 sp_maker_of w (mCons (mVar 0) mNil))))
    (sRet (mC .non)) w)
    (sRet (mVar 1)))
@[irreducible] def sp_made_or_none : NSp := spOf 2 m_made_or_none
/-- due_in(word) : 0=word 1=ahead 2=mark 3=behind -/
def m_due_in (w : NW) : NS :=
    (sSeq (sAsg (mM1 nPart (mVar 0) (mC (.str "/"))) (gTp 3 (gsCons (gNm 1) (gsCons (gNm 2) (gsCons (gNm 3) gsNil)))))
    (sSeq (sIf (mOr (mTst (mOp nIsN (mCall 1 sp_number_in w (mCons (mVar 1) mNil)) (mC .non))) (mTst (mOp nIsN (mCall 1 sp_number_in w (mCons (mVar 3) mNil)) (mC .non))))
    (sRet (mC .non))
    sNext)
    (sRet (mTup (mCons (mCall 1 sp_number_in w (mCons (mVar 1) mNil)) (mCons (mCall 1 sp_number_in w (mCons (mVar 3) mNil)) mNil))))))
@[irreducible] def sp_due_in : NSp := spOf 4 m_due_in
/-- plain_in(words) : 0=words 1=numbers 2=word 3=due 4=found -/
def m_plain_in (w : NW) : NS :=
    (sSeq (sIf (mOr (mTst (mOp nLt (mCallB nLen (mCons (mVar 0) mNil)) (mC (.int 6)))) (mTst (mOp nNe (mTabGet c_SIZES (mOp nIx (mVar 0) (mC (.int 2))) (mC (.int 0))) (mCallB nLen (mCons (mVar 0) mNil)))))
    (sRet (mC .non))
    sNext)
    (sSeq (sSet 1 (mLc (iWalk (mOp nAdd (mSl (mVar 0) (mPart (mC (.int 3))) (mPart (mC (.int 5)))) (mSl (mVar 0) (mPart (mC (.int 6))) mNoPart))) (gNm 2) mYes (mCall 1 sp_number_in nw0 (mCons (mVar 2) mNil)) [2]))
    (sSeq (sSet 3 (mCall 1 sp_due_in w (mCons (mOp nIx (mVar 0) (mC (.int 5))) mNil)))
    (sSeq (sIf (mOr (mTst (mOp nIn (mC .non) (mVar 1))) (mTst (mOp nIsN (mVar 3) (mC .non))))
    (sRet (mC .non))
    sNext)
    (sSeq (sSet 4 (mTup (mCons (mOp nIx (mVar 0) (mC (.int 2))) (mCons (mOp nIx (mVar 1) (mC (.int 0))) (mCons (mOp nIx (mVar 1) (mC (.int 1))) (mCons (mVar 3) mNil))))))
    (sRet (mIf (mTst (mOp nEq (mCallB nLen (mCons (mVar 0) mNil)) (mC (.int 6)))) (mVar 4) (mOp nAdd (mVar 4) (mTup (mCons (mTup (mCons (mOp nIx (mVar 1) (mC (.int 2))) (mCons (mOp nIx (mVar 1) (mC (.int 3))) mNil))) mNil))))))))))
@[irreducible] def sp_plain_in : NSp := spOf 5 m_plain_in
/-- put_maker(market, words) : 0=market 1=words 2=plain 3=maker -/
def m_put_maker (w : NW) : NS :=
    (sSeq (sSet 2 (mCall 1 sp_plain_in w (mCons (mVar 1) mNil)))
    (sSeq (sSet 3 (mIf (mTst (mOp nIsN (mVar 2) (mC .non))) (mC .non) (mCall 1 sp_made_or_none w (mCons (mVar 2) mNil))))
    (sSeq (sIf (mOr (mTst (mOp nIsN (mVar 3) (mC .non))) (mOr (mTst (mOp nEq (mCallB nLen (mCons (mUn (nFld "stalls") (mVar 0)) mNil)) (mC (.int 6)))) (mTst (mOp nNeX (mUn (nFld "pockets") (mVar 0)) mDic0))))
    (sRet (mC (.bl false)))
    sNext)
    (sSeq (sAsg (mVar 3) (gIx (mUn (nFld "stalls") (mVar 0)) (mOp nIx (mVar 1) (mC (.int 1)))))
    (sRet (mC (.bl true)))))))
@[irreducible] def sp_put_maker : NSp := spOf 4 m_put_maker
/-- is_put(market, words) : 0=market 1=words -/
def m_is_put (w : NW) : NS :=
    (sSeq (sIf (mOr (mTst (mOp nLt (mCallB nLen (mCons (mVar 1) mNil)) (mC (.int 2)))) (mOr (mNot (mTst (mCall 1 sp_is_name w (mCons (mOp nIx (mVar 1) (mC (.int 1))) mNil)))) (mOr (mTst (mOp nIn (mOp nIx (mVar 1) (mC (.int 1))) (mUn (nFld "stalls") (mVar 0)))) (mTst (mOp nIn (mOp nIx (mVar 1) (mC (.int 1))) (mUn (nFld "pockets") (mVar 0)))))))
    (sRet (mC (.bl false)))
    sNext)
    (sSeq (sIf (mTst (mOp nEq (mOp nIx (mVar 1) (mC (.int 0))) (mC (.str "maker"))))
    (sRet (mCall 2 sp_put_maker w (mCons (mVar 0) (mCons (mVar 1) mNil))))
    sNext)
    (sRet (mAndV (mOp nEq (mOp nIx (mVar 1) (mC (.int 0))) (mC (.str "hand"))) (mCall 2 sp_put_hand w (mCons (mVar 0) (mCons (mVar 1) mNil)))))))
@[irreducible] def sp_is_put : NSp := spOf 2 m_is_put
/-- read(text) : 0=text 1=found 2=number 3=row -/
def m_read (w : NW) : NS :=
    (sSeq (sIf (mNot (mTst (mCallB (nIsi CL) (mCons (mVar 0) (mCons (mC (.ty "str")) mNil)))))
    (sRaiseX "NoText" "line" (mC (.int 0)) w)
    sNext)
    (sSeq (sSet 1 (mMake "Market" 1 sp_Market___init__ w mNil))
    (sSeq (sForI (iEnumN (mM1 nSplit (mVar 0) (mC (.str "\n")))) (gTp 2 (gsCons (gNm 2) (gsCons (gNm 3) gsNil)))
    (sIf (mNot (mTst (mCall 2 sp_is_put w (mCons (mVar 1) (mCons (mM1 nSplit (mVar 3) (mC (.str " "))) mNil)))))
    (sRaiseX "NoText" "line" (mOp nAdd (mVar 2) (mC (.int 1))) w)
    sNext))
    (sRet (mVar 1)))))
@[irreducible] def sp_read : NSp := spOf 4 m_read
def mt_Market_text : MT := fun c => if c = "Market" then some (1, sp_Market_text) else none
/-- _law_said(_law_text) : 0=_law_text 1=_law_caught 2=_law_found 3=_law_e 4=_law_word_here -/
def m__law_said (w : NW) : NS :=
    (sSeq (sSet 1 (mC .non))
    (sSeq (sSet 2 (mC .non))
    (sSeq (sTryK CL "MartError" 3 1 (fun w => (sSet 2 (mCall 1 sp_read w (mCons (mVar 0) mNil)))) w)
    (sSeq (sIf (mTst (mOp nIsN (mVar 1) (mC .non)))
    (sRet (mTup (mCons (mC (.str "")) (mCons (mMeth "text" mt_Market_text w (mVar 2) mNil) mNil))))
    sNext)
    (sSeq (sSet 4 (mCall 1 sp__law_word w (mCons (mVar 1) mNil)))
    (sSeq (sIf (mAnd (mTst (mOp nEq (mVar 4) (mC (.str "text")))) (mNot (mTst (mCallB (nIsi CL) (mCons (mUn (nXf "NoText" "line") (mVar 1)) (mCons (mC (.ty "bool")) mNil))))))
    (sRet (mTup (mCons (mVar 4) (mCons (mUn (nXf "NoText" "line") (mVar 1)) mNil))))
    sNext)
    (sRet (mTup (mCons (mVar 4) (mCons (mC .non) mNil))))))))))
@[irreducible] def sp__law_said : NSp := spOf 5 m__law_said
/-- _law_called_twice(_law_own, _law_rows_here, _law_state_here) : 0=_law_own 1=_law_rows_here 2=_law_state_here 3=_law_many 4=_law_names_here 5=_law_name 6=_law_maker 7=_law_hand -/
def m__law_called_twice (w : NW) : NS :=
    (sSeq (sSet 3 (mCallB nLen (mCons (mOp nIx (mVar 0) (mC (.str "makers"))) mNil)))
    (sSeq (sSet 4 (mCallB nListD (mCons (mOp nIx (mVar 0) (mC (.str "makers"))) mNil)))
    (sSeq (sSet 5 (mOp nIx (mVar 4) (mOp nMod (mCall 1 sp__law_next w (mCons (mVar 2) mNil)) (mVar 3))))
    (sSeq (sSet 6 (mOp nAdd (mOp nAdd (mC (.str "maker ")) (mVar 5)) (mC (.str " sum 7 7 0/1 1 1"))))
    (sSeq (sIf (mTst (mOp nNe (mCall 1 sp__law_said w (mCons (mM1 nJoin (mC (.str "\n")) (mOp nAdd (mOp nAdd (mSl (mVar 1) mNoPart (mPart (mVar 3))) (mLst (mCons (mVar 6) mNil))) (mSl (mVar 1) (mPart (mVar 3)) mNoPart))) mNil)) (mTup (mCons (mC (.str "text")) (mCons (mOp nAdd (mVar 3) (mC (.int 1))) mNil)))))
    (sRet (mC (.bl false)))
    sNext)
    (sSeq (sSet 4 (mOp nAdd (mVar 4) (mCallB nListD (mCons (mOp nIx (mVar 0) (mC (.str "hands"))) mNil))))
    (sSeq (sSet 7 (mOp nAdd (mOp nAdd (mC (.str "hand ")) (mOp nIx (mVar 4) (mOp nMod (mCall 1 sp__law_next w (mCons (mVar 2) mNil)) (mCallB nLen (mCons (mVar 4) mNil))))) (mC (.str " 7 7"))))
    (sRet (mOp nEq (mCall 1 sp__law_said w (mCons (mM1 nJoin (mC (.str "\n")) (mOp nAdd (mVar 1) (mLst (mCons (mVar 7) mNil)))) mNil)) (mTup (mCons (mC (.str "text")) (mCons (mOp nAdd (mCallB nLen (mCons (mVar 1) mNil)) (mC (.int 1))) mNil))))))))))))
@[irreducible] def sp__law_called_twice : NSp := spOf 8 m__law_called_twice
/-- _law_full(_law_own, _law_rows_here) : 0=_law_own 1=_law_rows_here 2=_law_many 3=_law_few 4=_law_maker 5=_law_hand 6=_law_good -/
def m__law_full (w : NW) : NS :=
    (sSeq (sPar 2 3 (mCallB nLen (mCons (mOp nIx (mVar 0) (mC (.str "makers"))) mNil)) (mCallB nLen (mCons (mOp nIx (mVar 0) (mC (.str "hands"))) mNil)))
    (sSeq (sAsg (mTup (mCons (mC (.str "maker zqzq sum 0 0 0/1 1 1")) (mCons (mC (.str "hand zqzq 0 0")) mNil))) (gTp 2 (gsCons (gNm 4) (gsCons (gNm 5) gsNil))))
    (sSeq (sSet 6 (mM1 nJoin (mC (.str "\n")) (mOp nAdd (mOp nAdd (mSl (mVar 1) mNoPart (mPart (mVar 2))) (mLst (mCons (mVar 4) mNil))) (mSl (mVar 1) (mPart (mVar 2)) mNoPart))))
    (sSeq (sIf (mTst (mOp nNe (mCall 1 sp__law_said w (mCons (mVar 6) mNil)) (mOp nIx (mLst (mCons (mTup (mCons (mC (.str "")) (mCons (mVar 6) mNil))) (mCons (mTup (mCons (mC (.str "text")) (mCons (mC (.int 7)) mNil))) mNil))) (mCallB nInt1 (mCons (mOp nEq (mVar 2) (mC (.int 6))) mNil)))))
    (sRet (mC (.bl false)))
    sNext)
    (sSeq (sSet 6 (mM1 nJoin (mC (.str "\n")) (mOp nAdd (mVar 1) (mLst (mCons (mVar 5) mNil)))))
    (sSeq (sIf (mTst (mOp nNe (mCall 1 sp__law_said w (mCons (mVar 6) mNil)) (mOp nIx (mLst (mCons (mTup (mCons (mC (.str "")) (mCons (mVar 6) mNil))) (mCons (mTup (mCons (mC (.str "text")) (mCons (mOp nAdd (mCallB nLen (mCons (mVar 1) mNil)) (mC (.int 1))) mNil))) mNil))) (mCallB nInt1 (mCons (mOp nEq (mVar 3) (mC (.int 6))) mNil)))))
    (sRet (mC (.bl false)))
    sNext)
    (sSeq (sIf (mTst (mOp nNe (mCall 1 sp__law_said w (mCons (mM1 nJoin (mC (.str "\n")) (mOp nAdd (mLst (mCons (mVar 5) mNil)) (mVar 1))) mNil)) (mTup (mCons (mC (.str "text")) (mCons (mC (.int 1)) mNil)))))
    (sRet (mC (.bl false)))
    sNext)
    (sRet (mOrV (mOp nEq (mVar 3) (mC (.int 0))) (mOp nEq (mCall 1 sp__law_said w (mCons (mM1 nJoin (mC (.str "\n")) (mOp nAdd (mVar 1) (mLst (mCons (mVar 4) mNil)))) mNil)) (mTup (mCons (mC (.str "text")) (mCons (mOp nAdd (mCallB nLen (mCons (mVar 1) mNil)) (mC (.int 1))) mNil)))))))))))))
@[irreducible] def sp__law_full : NSp := spOf 7 m__law_full
/-- _law_amount(_law_state_here) : 0=_law_state_here 1=_law_number 2=_law_more 3=_law_wide -/
def m__law_amount (w : NW) : NS :=
    (sSeq (sSet 1 (mCall 1 sp__law_next w (mCons (mVar 0) mNil)))
    (sSeq (sSet 2 (mOp nDiv (mVar 1) (mC (.int 4))))
    (sSeq (sSet 3 (mOp nAdd (mOp nMul (mVar 1) (mC (.int 2147483629))) (mCall 1 sp__law_next w (mCons (mVar 0) mNil))))
    (sRet (mOp nIx (mLst (mCons (mOp nMod (mVar 2) (mC (.int 30))) (mCons (mOp nAdd (mC (.int 1)) (mOp nMod (mVar 2) (mC (.int 1000000)))) (mCons (mOp nSub (mOp nPow (mC (.int 10)) (mC (.int 12))) (mOp nMod (mVar 2) (mC (.int 9)))) (mCons (mOp nMod (mVar 3) (mOp nAdd (mOp nPow (mC (.int 10)) (mC (.int 12))) (mC (.int 1)))) mNil))))) (mOp nMod (mVar 1) (mC (.int 4))))))))
@[irreducible] def sp__law_amount : NSp := spOf 4 m__law_amount
/-- _law_names(_law_state_here) : 0=_law_state_here 1=_law_number 2=_law_step 3=_law_letters 4=_law_border 5=_law_at 6=_law_tail 7=_law_found 8=_law_k 9=_law_sign 10=_law_size -/
def m__law_names (w : NW) : NS :=
    (sSeq (sSet 1 (mCall 1 sp__law_next w (mCons (mVar 0) mNil)))
    (sSeq (sSet 2 (mOp nIx (mLst (mCons (mC (.int 5)) (mCons (mC (.int 21)) (mCons (mC (.int 11)) mNil)))) (mOp nMod (mVar 1) (mC (.int 3)))))
    (sSeq (sSet 3 (mC (.str "abcdefghijklmnopqrstuvwxyz")))
    (sSeq (sSet 4 (mSl (mC (.str "qzjvqzj")) mNoPart (mPart (mOp nMod (mVar 1) (mC (.int 8))))))
    (sSeq (sSet 5 (mOp nMod (mOp nDiv (mVar 1) (mC (.int 8))) (mOp nAdd (mCallB nLen (mCons (mVar 4) mNil)) (mC (.int 1)))))
    (sSeq (sSet 6 (mSl (mVar 4) (mPart (mVar 5)) mNoPart))
    (sSeq (sSet 7 (mLst mNil))
    (sSeq (sForR1 (mC (.int 12)) (gNm 8)
    (sSeq (sSet 9 (mOp nIx (mVar 3) (mOp nMod (mOp nAdd (mOp nDiv (mVar 1) (mC (.int 64))) (mOp nMul (mVar 2) (mVar 8))) (mC (.int 26)))))
    (sSeq (sSet 10 (mOp nIx (mLst (mCons (mCallB nLen (mCons (mVar 6) mNil)) (mCons (mOp nMod (mVar 8) (mOp nAdd (mCallB nLen (mCons (mVar 6) mNil)) (mC (.int 1)))) mNil))) (mOp nMod (mOp nDiv (mVar 1) (mC (.int 3))) (mC (.int 2)))))
    (sDrop (mLm nAppend (mVar 7) (mCons (mOp nAdd (mOp nAdd (mSl (mVar 4) mNoPart (mPart (mVar 5))) (mVar 9)) (mSl (mVar 6) mNoPart (mPart (mVar 10)))) mNil))))))
    (sRet (mVar 7))))))))))
@[irreducible] def sp__law_names : NSp := spOf 11 m__law_names
/-- _law_due(_law_state_here) : 0=_law_state_here 1=_law_number 2=_law_bottom 3=_law_some -/
def m__law_due (w : NW) : NS :=
    (sSeq (sSet 1 (mCall 1 sp__law_next w (mCons (mVar 0) mNil)))
    (sSeq (sSet 2 (mOp nAdd (mC (.int 1)) (mOp nMod (mOp nDiv (mVar 1) (mC (.int 5))) (mC (.int 10000)))))
    (sSeq (sSet 3 (mLst (mCons (mTup (mCons (mC (.int 0)) (mCons (mC (.int 1)) mNil))) (mCons (mTup (mCons (mC (.int 3)) (mCons (mC (.int 1000)) mNil))) (mCons (mTup (mCons (mC (.int 1)) (mCons (mC (.int 10)) mNil))) (mCons (mTup (mCons (mC (.int 0)) (mCons (mVar 2) mNil))) (mCons (mTup (mCons (mOp nMod (mOp nDiv (mVar 1) (mC (.int 50000))) (mOp nAdd (mOp nDiv (mVar 2) (mC (.int 10))) (mC (.int 1)))) (mCons (mVar 2) mNil))) mNil)))))))
    (sRet (mOp nIx (mVar 3) (mOp nMod (mVar 1) (mC (.int 5))))))))
@[irreducible] def sp__law_due : NSp := spOf 4 m__law_due
/-- _law_plain(_law_state_here) : 0=_law_state_here 1=_law_number 2=_law_sort 3=_law_salt 4=_law_cloth 5=_law_due_here 6=_law_more 7=_law_less 8=_law_rate -/
def m__law_plain (w : NW) : NS :=
    (sSeq (sSet 1 (mCall 1 sp__law_next w (mCons (mVar 0) mNil)))
    (sSeq (sSet 2 (mOp nIx (mLst (mCons (mC (.str "product")) (mCons (mC (.str "stretch")) (mCons (mC (.str "sum")) mNil)))) (mOp nMod (mVar 1) (mC (.int 3)))))
    (sSeq (sPar 3 4 (mCall 1 sp__law_amount w (mCons (mVar 0) mNil)) (mCall 1 sp__law_amount w (mCons (mVar 0) mNil)))
    (sSeq (sSet 5 (mCall 1 sp__law_due w (mCons (mVar 0) mNil)))
    (sSeq (sIf (mTst (mOp nEq (mVar 2) (mC (.str "product"))))
    (sRet (mTup (mCons (mVar 2) (mCons (mCallB nMax2 (mCons (mC (.int 1)) (mCons (mVar 3) mNil))) (mCons (mCallB nMax2 (mCons (mC (.int 1)) (mCons (mVar 4) mNil))) (mCons (mVar 5) mNil))))))
    sNext)
    (sSeq (sPar 6 7 (mCall 1 sp__law_amount w (mCons (mVar 0) mNil)) (mCall 1 sp__law_amount w (mCons (mVar 0) mNil)))
    (sSeq (sIf (mTst (mOp nEq (mVar 2) (mC (.str "stretch"))))
    (sRet (mTup (mCons (mVar 2) (mCons (mVar 3) (mCons (mVar 4) (mCons (mVar 5) (mCons (mTup (mCons (mCallB nMax2 (mCons (mVar 6) (mCons (mCallB nInt1 (mCons (mOp nEq (mVar 3) (mC (.int 0))) mNil)) mNil))) (mCons (mCallB nMax2 (mCons (mVar 7) (mCons (mCallB nInt1 (mCons (mOp nEq (mVar 4) (mC (.int 0))) mNil)) mNil))) mNil))) mNil)))))))
    sNext)
    (sSeq (sSet 8 (mOp nIx (mLst (mCons (mTup (mCons (mC (.int 1)) (mCons (mC (.int 1)) mNil))) (mCons (mTup (mCons (mOp nAdd (mC (.int 1)) (mOp nMod (mVar 6) (mC (.int 9)))) (mCons (mOp nAdd (mC (.int 1)) (mOp nMod (mVar 7) (mC (.int 9)))) mNil))) (mCons (mTup (mCons (mOp nAdd (mC (.int 1)) (mOp nMod (mVar 6) (mC (.int 1000000)))) (mCons (mOp nAdd (mC (.int 1)) (mOp nMod (mVar 7) (mC (.int 1000000)))) mNil))) mNil)))) (mOp nMod (mOp nDiv (mVar 1) (mC (.int 3))) (mC (.int 3)))))
    (sRet (mTup (mCons (mVar 2) (mCons (mVar 3) (mCons (mVar 4) (mCons (mVar 5) (mCons (mVar 8) mNil)))))))))))))))
@[irreducible] def sp__law_plain : NSp := spOf 9 m__law_plain
/-- _law_market(_law_state_here) : 0=_law_state_here 1=_law_names_here 2=_law_number 3=_law_own 4=_law_k -/
def m__law_market (w : NW) : NS :=
    (sSeq (sSet 1 (mCall 1 sp__law_names w (mCons (mVar 0) mNil)))
    (sSeq (sSet 2 (mCall 1 sp__law_next w (mCons (mVar 0) mNil)))
    (sSeq (sSet 3 (mDisp [(.inr "makers", mDic0), (.inr "hands", mDic0)]))
    (sSeq (sForR1 (mOp nAdd (mC (.int 1)) (mOp nMod (mVar 2) (mC (.int 6)))) (gNm 4)
    (sAsg (mCall 1 sp__law_plain w (mCons (mVar 0) mNil)) (gIx (mOp nIx (mVar 3) (mC (.str "makers"))) (mOp nIx (mVar 1) (mVar 4)))))
    (sSeq (sForR1 (mOp nMod (mOp nDiv (mVar 2) (mC (.int 6))) (mC (.int 7))) (gNm 4)
    (sAsg (mTup (mCons (mCall 1 sp__law_amount w (mCons (mVar 0) mNil)) (mCons (mCall 1 sp__law_amount w (mCons (mVar 0) mNil)) mNil))) (gIx (mOp nIx (mVar 3) (mC (.str "hands"))) (mOp nIx (mVar 1) (mOp nAdd (mC (.int 6)) (mVar 4))))))
    (sRet (mVar 3)))))))
@[irreducible] def sp__law_market : NSp := spOf 5 m__law_market
/-- _law_maker_row(_law_name, _law_plain_here) : 0=_law_name 1=_law_plain_here 2=_law_words 3=_law_pair -/
def m__law_maker_row (w : NW) : NS :=
    (sSeq (sSet 2 (mLst (mCons (mC (.str "maker")) (mCons (mVar 0) (mCons (mOp nIx (mVar 1) (mC (.int 0))) (mCons (mCallB nStr1 (mCons (mOp nIx (mVar 1) (mC (.int 1))) mNil)) (mCons (mCallB nStr1 (mCons (mOp nIx (mVar 1) (mC (.int 2))) mNil)) mNil)))))))
    (sSeq (sDrop (mLm nAppend (mVar 2) (mCons (mOp nAdd (mOp nAdd (mCallB nStr1 (mCons (mOp nIx (mOp nIx (mVar 1) (mC (.int 3))) (mC (.int 0))) mNil)) (mC (.str "/"))) (mCallB nStr1 (mCons (mOp nIx (mOp nIx (mVar 1) (mC (.int 3))) (mC (.int 1))) mNil))) mNil)))
    (sSeq (sFor (mSl (mVar 1) (mPart (mC (.int 4))) mNoPart) (gNm 3)
    (sSet 2 (mOp nAdd (mVar 2) (mLst (mCons (mCallB nStr1 (mCons (mOp nIx (mVar 3) (mC (.int 0))) mNil)) (mCons (mCallB nStr1 (mCons (mOp nIx (mVar 3) (mC (.int 1))) mNil)) mNil))))))
    (sRet (mM1 nJoin (mC (.str " ")) (mVar 2))))))
@[irreducible] def sp__law_maker_row : NSp := spOf 4 m__law_maker_row
/-- _law_rows(_law_own) : 0=_law_own 1=_law_found 2=_law_name 3=_law_plain_here 4=_law_purse -/
def m__law_rows (w : NW) : NS :=
    (sSeq (sSet 1 (mLst mNil))
    (sSeq (sLock (sForI (iItemsN (mOp nIx (mVar 0) (mC (.str "makers")))) (gTp 2 (gsCons (gNm 2) (gsCons (gNm 3) gsNil)))
    (sDrop (mLm nAppend (mVar 1) (mCons (mCall 2 sp__law_maker_row w (mCons (mVar 2) (mCons (mVar 3) mNil))) mNil)))))
    (sSeq (sLock (sForI (iItemsN (mOp nIx (mVar 0) (mC (.str "hands")))) (gTp 2 (gsCons (gNm 2) (gsCons (gNm 4) gsNil)))
    (sDrop (mLm nAppend (mVar 1) (mCons (mM1 nJoin (mC (.str " ")) (mLst (mCons (mC (.str "hand")) (mCons (mVar 2) (mCons (mCallB nStr1 (mCons (mOp nIx (mVar 4) (mC (.int 0))) mNil)) (mCons (mCallB nStr1 (mCons (mOp nIx (mVar 4) (mC (.int 1))) mNil)) mNil)))))) mNil)))))
    (sRet (mVar 1)))))
@[irreducible] def sp__law_rows : NSp := spOf 5 m__law_rows
/-- _law_state(_law_cells) : 0=_law_cells -/
def m__law_state (w : NW) : NS :=
    (sRet (mDisp [(.inr "cells", (mCallB nListD (mCons (mVar 0) mNil))), (.inr "left", (mCallB nListD (mCons (mVar 0) mNil))), (.inr "at", (mC (.int 0)))]))
@[irreducible] def sp__law_state : NSp := spOf 1 m__law_state
/-- _law_wrong_row(_law_state_here) : 0=_law_state_here 1=_law_plain_here 2=_law_some 3=_law_haves 4=_law_due_here 5=_law_rest -/
def m__law_wrong_row (w : NW) : NS :=
    (sSeq (sSet 1 (mC (.str "maker zqzq product 5 5 0/1")))
    (sSeq (sSet 2 (mLst (mCons (mC (.str "")) (mCons (mC (.str " ")) (mCons (mC (.str "maker")) (mCons (mC (.str "hand")) (mCons (mOp nAdd (mVar 1) (mC (.str " "))) (mCons (mOp nAdd (mC (.str " ")) (mVar 1)) (mCons (mUn (nRepl " " "  ") (mVar 1)) (mCons (mOp nAdd (mVar 1) (mC (.str " 5"))) mNil))))))))))
    (sSeq (sSet 2 (mOp nAdd (mVar 2) (mLst (mCons (mOp nAdd (mVar 1) (mC (.str " 5 5"))) (mCons (mOp nAdd (mVar 1) (mC (.str "	"))) (mCons (mC (.str "maker Zqzq product 5 5 0/1")) (mCons (mC (.str "maker zqzq product 5 5")) mNil)))))))
    (sSeq (sSet 2 (mOp nAdd (mVar 2) (mLst (mCons (mC (.str "maker zqzqzqzqz product 5 5 0/1")) (mCons (mC (.str "maker  product 5 5 0/1")) (mCons (mC (.str "stall zqzq product 5 5 0/1")) mNil))))))
    (sSeq (sFor (mLst (mCons (mC (.str "0 5")) (mCons (mC (.str "5 0")) (mCons (mC (.str "05 5")) (mCons (mC (.str "-5 5")) (mCons (mC (.str "+5 5")) (mCons (mC (.str "5_0 5")) (mCons (mC (.str "1000000000001 5")) (mCons (mC (.str "10000000000000 5")) (mCons (mC (.str "x 5")) mNil)))))))))) (gNm 3)
    (sDrop (mLm nAppend (mVar 2) (mCons (mOp nAdd (mOp nAdd (mC (.str "maker zqzq product ")) (mVar 3)) (mC (.str " 0/1"))) mNil))))
    (sSeq (sFor (mLst (mCons (mC (.str "1/9")) (mCons (mC (.str "2/10")) (mCons (mC (.str "0/0")) (mCons (mC (.str "1/10001")) (mCons (mC (.str "-1/10")) (mCons (mC (.str "01/10")) (mCons (mC (.str "1")) (mCons (mC (.str "1/")) (mCons (mC (.str "/10")) (mCons (mC (.str "1/10/10")) (mCons (mC (.str "1 /10")) (mCons (mC (.str "a/10")) mNil))))))))))))) (gNm 4)
    (sDrop (mLm nAppend (mVar 2) (mCons (mOp nAdd (mC (.str "maker zqzq product 5 5 ")) (mVar 4)) mNil))))
    (sSeq (sFor (mLst (mCons (mC (.str "sum 5 5 0/1")) (mCons (mC (.str "sum 5 5 0/1 0 1")) (mCons (mC (.str "sum 5 5 0/1 1 1000001")) (mCons (mC (.str "sum 5 5 0/1 1")) (mCons (mC (.str "Product 5 5 0/1")) mNil)))))) (gNm 5)
    (sDrop (mLm nAppend (mVar 2) (mCons (mOp nAdd (mC (.str "maker zqzq ")) (mVar 5)) mNil))))
    (sSeq (sFor (mLst (mCons (mC (.str "0 5 0/1 0 0")) (mCons (mC (.str "5 0 0/1 5 0")) (mCons (mC (.str "5 5 0/1 5 1000000000001")) (mCons (mC (.str "5 5 0/1")) (mCons (mC (.str "5 5 0/1 5")) mNil)))))) (gNm 5)
    (sDrop (mLm nAppend (mVar 2) (mCons (mOp nAdd (mC (.str "maker zqzq stretch ")) (mVar 5)) mNil))))
    (sSeq (sFor (mLst (mCons (mC (.str "5")) (mCons (mC (.str "5 5 5")) (mCons (mC (.str "5 05")) (mCons (mC (.str "5 -5")) (mCons (mC (.str "5 1000000000001")) (mCons (mC (.str "5 x")) (mCons (mC (.str "5  5")) (mCons (mC (.str "")) mNil))))))))) (gNm 5)
    (sDrop (mLm nAppend (mVar 2) (mCons (mOp nAdd (mC (.str "hand zqzq ")) (mVar 5)) mNil))))
    (sRet (mOp nIx (mVar 2) (mOp nMod (mCall 1 sp__law_next w (mCons (mVar 0) mNil)) (mCallB nLen (mCons (mVar 2) mNil))))))))))))))
@[irreducible] def sp__law_wrong_row : NSp := spOf 6 m__law_wrong_row
/-- _law_wrong(_law_rows_here, _law_state_here) : 0=_law_rows_here 1=_law_state_here 2=_law_found 3=_law_first 4=_law_other -/
def m__law_wrong (w : NW) : NS :=
    (sSeq (sSet 2 (mCallB nListD (mCons (mVar 0) mNil)))
    (sSeq (sSet 3 (mOp nMod (mCall 1 sp__law_next w (mCons (mVar 1) mNil)) (mOp nAdd (mCallB nLen (mCons (mVar 2) mNil)) (mC (.int 1)))))
    (sSeq (sDrop (mLm nInsert (mVar 2) (mCons (mVar 3) (mCons (mCall 1 sp__law_wrong_row w (mCons (mVar 1) mNil)) mNil))))
    (sSeq (sIf (mTst (mOp nEq (mOp nMod (mCall 1 sp__law_next w (mCons (mVar 1) mNil)) (mC (.int 3))) (mC (.int 1))))
    (sSeq (sSet 4 (mOp nMod (mCall 1 sp__law_next w (mCons (mVar 1) mNil)) (mOp nAdd (mCallB nLen (mCons (mVar 2) mNil)) (mC (.int 1)))))
    (sSeq (sDrop (mLm nInsert (mVar 2) (mCons (mVar 4) (mCons (mCall 1 sp__law_wrong_row w (mCons (mVar 1) mNil)) mNil))))
    (sSet 3 (mCallB nMin2 (mCons (mVar 3) (mCons (mVar 4) mNil))))))
    sNext)
    (sRet (mTup (mCons (mVar 2) (mCons (mOp nAdd (mVar 3) (mC (.int 1))) mNil))))))))
@[irreducible] def sp__law_wrong : NSp := spOf 5 m__law_wrong
/-- law(_law_script) : 0=_law_script 1=_law_cell 2=_law_state_here 3=_law_own 4=_law_rows_here 5=_law_wrong_here 6=_law_due_here 7=_law_odd 8=_law_text -/
def m_law (w : NW) : NS :=
    (sSeq (sFor (mVar 0) (gNm 1)
    (sSeq (sSet 2 (mCall 1 sp__law_state w (mCons (mLst (mCons (mVar 1) mNil)) mNil)))
    (sSeq (sSet 3 (mCall 1 sp__law_market w (mCons (mVar 2) mNil)))
    (sSeq (sSet 4 (mCall 1 sp__law_rows w (mCons (mVar 3) mNil)))
    (sSeq (sAsg (mCall 2 sp__law_wrong w (mCons (mVar 4) (mCons (mVar 2) mNil))) (gTp 2 (gsCons (gNm 5) (gsCons (gNm 6) gsNil))))
    (sSeq (sIf (mOr (mTst (mOp nNe (mCall 1 sp__law_said w (mCons (mM1 nJoin (mC (.str "\n")) (mVar 5)) mNil)) (mTup (mCons (mC (.str "text")) (mCons (mVar 6) mNil))))) (mNot (mTst (mCall 3 sp__law_called_twice w (mCons (mVar 3) (mCons (mVar 4) (mCons (mVar 2) mNil)))))))
    (sRet (mC (.bl false)))
    sNext)
    (sSeq (sIf (mOr (mNot (mTst (mCall 2 sp__law_full w (mCons (mVar 3) (mCons (mVar 4) mNil))))) (mTst (mOp nNe (mCall 1 sp__law_said w (mCons (mM1 nJoin (mC (.str "\n")) (mVar 4)) mNil)) (mTup (mCons (mC (.str "")) (mCons (mM1 nJoin (mC (.str "\n")) (mVar 4)) mNil))))))
    (sRet (mC (.bl false)))
    sNext)
    (sSeq (sIf (mTst (mOp nNe (mCall 1 sp__law_said w (mCons (mM1 nJoin (mC (.str "\n")) (mOp nAdd (mVar 4) (mLst (mCons (mC (.str "")) mNil)))) mNil)) (mTup (mCons (mC (.str "text")) (mCons (mOp nAdd (mCallB nLen (mCons (mVar 4) mNil)) (mC (.int 1))) mNil)))))
    (sRet (mC (.bl false)))
    sNext)
    (sSeq (sSet 7 (mOp nIx (mLst (mCons (mC .non) (mCons (mC (.int 5)) (mCons (mVar 4) (mCons (mC (.bl true)) (mCons mDic0 (mCons (mTup (mCons (mC (.str "hand a 1 1")) mNil)) mNil))))))) (mOp nMod (mCall 1 sp__law_next w (mCons (mVar 2) mNil)) (mC (.int 6)))))
    (sIf (mTst (mOp nNe (mCall 1 sp__law_said w (mCons (mVar 7) mNil)) (mTup (mCons (mC (.str "text")) (mCons (mC (.int 0)) mNil)))))
    (sRet (mC (.bl false)))
    sNext))))))))))
    (sRet (mOp nEq (mLc (iWalk (mTup (mCons (mC (.str "")) (mCons (mC (.str "\n")) (mCons (mC (.str "hand a 1 1")) mNil))))) (gNm 8) mYes (mCall 1 sp__law_said nw0 (mCons (mVar 8) mNil)) [8]) (mOp nMulL (mLst (mCons (mTup (mCons (mC (.str "text")) (mCons (mC (.int 1)) mNil))) mNil)) (mC (.int 3))))))
@[irreducible] def sp_law : NSp := spOf 9 m_law
end K12

set_option Elab.async false
set_option linter.all false
set_option maxRecDepth 100000
set_option maxHeartbeats 4000000
namespace K12
open PySem PySem.Spec PyProof.Rows L2 N
variable [TabList]
def top (i : Nat) : Stmt := PySem.Challenge.pw_rumourmart_k12_texts_refused.main.body.getD i (.Pass ⟨0, 0, 0, 0⟩)
abbrev s__law_mixed : Stmt := top 57
abbrev s__law_next : Stmt := top 59
abbrev s_Maker_called : Stmt := inClass (top 28) 1
abbrev s_Stretch_called : Stmt := inClass (top 30) 0
abbrev s_Sum_called : Stmt := inClass (top 31) 0
abbrev s_Maker_plain : Stmt := inClass (top 28) 2
abbrev s_hand_row : Stmt := top 45
abbrev s_maker_row : Stmt := top 44
abbrev s_Market_text : Stmt := inClass (top 43) 6
abbrev s__law_word : Stmt := top 67
abbrev s_Market___init__ : Stmt := inClass (top 43) 0
abbrev s_is_name : Stmt := top 46
abbrev s_number_in : Stmt := top 47
abbrev s_put_hand : Stmt := top 52
abbrev s_Maker___init__ : Stmt := inClass (top 28) 0
abbrev s_is_whole : Stmt := top 19
abbrev s_is_among : Stmt := top 20
abbrev s_is_pair : Stmt := top 21
abbrev s_is_due : Stmt := top 22
abbrev s_is_plain : Stmt := top 32
abbrev s_maker_of : Stmt := top 33
abbrev s_made_or_none : Stmt := top 50
abbrev s_due_in : Stmt := top 48
abbrev s_plain_in : Stmt := top 49
abbrev s_put_maker : Stmt := top 51
abbrev s_is_put : Stmt := top 53
abbrev s_read : Stmt := top 54
abbrev s__law_said : Stmt := top 69
abbrev s__law_called_twice : Stmt := top 72
abbrev s__law_full : Stmt := top 71
abbrev s__law_amount : Stmt := top 60
abbrev s__law_names : Stmt := top 62
abbrev s__law_due : Stmt := top 61
abbrev s__law_plain : Stmt := top 63
abbrev s__law_market : Stmt := top 64
abbrev s__law_maker_row : Stmt := top 65
abbrev s__law_rows : Stmt := top 66
abbrev s__law_state : Stmt := top 58
abbrev s__law_wrong_row : Stmt := top 68
abbrev s__law_wrong : Stmt := top 70
abbrev s_law : Stmt := top 73
abbrev s_NoText_init : Stmt := inClass (top 8) 0
structure Txt (WW : World) (K : PySem.W.Frag) (mg : Str → Option Value) : Prop where
  kf : KF CL K
  kx : KX CL K
  ki : KI IC K
  f_ValueError : mg "ValueError" = none
  f_all : mg "all" = none
  f_bool : mg "bool" = none
  f_enumerate : mg "enumerate" = none
  f_int : mg "int" = none
  f_isinstance : mg "isinstance" = none
  f_len : mg "len" = none
  f_list : mg "list" = none
  f_max : mg "max" = none
  f_min : mg "min" = none
  f_range : mg "range" = none
  f_str : mg "str" = none
  f_sum : mg "sum" = none
  f_tuple : mg "tuple" = none
  g_BadCount : mg "BadCount" = some (.ref (He.ga K "BadCount"))
  x_BadCount : (He.Fa.exc "BadCount").ok K = true
  g_BadMaker : mg "BadMaker" = some (.ref (He.ga K "BadMaker"))
  x_BadMaker : (He.Fa.exc "BadMaker").ok K = true
  g_BadRumour : mg "BadRumour" = some (.ref (He.ga K "BadRumour"))
  g_BadShares : mg "BadShares" = some (.ref (He.ga K "BadShares"))
  g_BadWare : mg "BadWare" = some (.ref (He.ga K "BadWare"))
  x_BadWare : (He.Fa.exc "BadWare").ok K = true
  c_FIGURES : ∃ t, mg "FIGURES" = some (.str "0123456789" t)
  c_MOST : ∃ t, mg "MOST" = some (.int 1000000000000 t)
  c_MOST_BOTTOM : ∃ t, mg "MOST_BOTTOM" = some (.int 10000 t)
  c_MOST_FIGURES : ∃ t, mg "MOST_FIGURES" = some (.int 13 t)
  c_MOST_GRAINS : ∃ t, mg "MOST_GRAINS" = some (.int 1000000000000 t)
  c_MOST_HANDS : ∃ t, mg "MOST_HANDS" = some (.int 6 t)
  c_MOST_MAKERS : ∃ t, mg "MOST_MAKERS" = some (.int 6 t)
  c_MOST_RATE : ∃ t, mg "MOST_RATE" = some (.int 1000000 t)
  c_MOST_SIGNS : ∃ t, mg "MOST_SIGNS" = some (.int 8 t)
  g_Market : mg "Market" = some (.ref (He.ga K "Market"))
  g_MartError : mg "MartError" = some (.ref (He.ga K "MartError"))
  g_NoLine : mg "NoLine" = some (.ref (He.ga K "NoLine"))
  g_NoName : mg "NoName" = some (.ref (He.ga K "NoName"))
  x_NoName : (He.Fa.exc "NoName").ok K = true
  g_NoParting : mg "NoParting" = some (.ref (He.ga K "NoParting"))
  g_NoText : mg "NoText" = some (.ref (He.ga K "NoText"))
  g_Product : mg "Product" = some (.ref (He.ga K "Product"))
  g_SIZES : mg "SIZES" = some (.ref (He.ga K "SIZES"))
  c_SMALL : ∃ t, mg "SMALL" = some (.str "abcdefghijklmnopqrstuvwxyz" t)
  g_Stretch : mg "Stretch" = some (.ref (He.ga K "Stretch"))
  g_Sum : mg "Sum" = some (.ref (He.ga K "Sum"))
  g_TooLittle : mg "TooLittle" = some (.ref (He.ga K "TooLittle"))
  g_TooMuch : mg "TooMuch" = some (.ref (He.ga K "TooMuch"))
  x_TooMuch : (He.Fa.exc "TooMuch").ok K = true
  t_WARES : TupS K "WARES" c_WARES
  g_WARES : mg "WARES" = some (.ref (He.ga K "WARES"))
  g__law_amount : mg "_law_amount" = some (.ref (He.ga K "_law_amount"))
  g__law_called_twice : mg "_law_called_twice" = some (.ref (He.ga K "_law_called_twice"))
  g__law_due : mg "_law_due" = some (.ref (He.ga K "_law_due"))
  g__law_full : mg "_law_full" = some (.ref (He.ga K "_law_full"))
  g__law_maker_row : mg "_law_maker_row" = some (.ref (He.ga K "_law_maker_row"))
  g__law_market : mg "_law_market" = some (.ref (He.ga K "_law_market"))
  g__law_mixed : mg "_law_mixed" = some (.ref (He.ga K "_law_mixed"))
  g__law_names : mg "_law_names" = some (.ref (He.ga K "_law_names"))
  g__law_next : mg "_law_next" = some (.ref (He.ga K "_law_next"))
  g__law_plain : mg "_law_plain" = some (.ref (He.ga K "_law_plain"))
  g__law_rows : mg "_law_rows" = some (.ref (He.ga K "_law_rows"))
  g__law_said : mg "_law_said" = some (.ref (He.ga K "_law_said"))
  g__law_state : mg "_law_state" = some (.ref (He.ga K "_law_state"))
  g__law_word : mg "_law_word" = some (.ref (He.ga K "_law_word"))
  g__law_wrong : mg "_law_wrong" = some (.ref (He.ga K "_law_wrong"))
  g__law_wrong_row : mg "_law_wrong_row" = some (.ref (He.ga K "_law_wrong_row"))
  g_due_in : mg "due_in" = some (.ref (He.ga K "due_in"))
  g_hand_row : mg "hand_row" = some (.ref (He.ga K "hand_row"))
  g_is_among : mg "is_among" = some (.ref (He.ga K "is_among"))
  g_is_due : mg "is_due" = some (.ref (He.ga K "is_due"))
  g_is_name : mg "is_name" = some (.ref (He.ga K "is_name"))
  g_is_pair : mg "is_pair" = some (.ref (He.ga K "is_pair"))
  g_is_plain : mg "is_plain" = some (.ref (He.ga K "is_plain"))
  g_is_put : mg "is_put" = some (.ref (He.ga K "is_put"))
  g_is_whole : mg "is_whole" = some (.ref (He.ga K "is_whole"))
  g_law : mg "law" = some (.ref (He.ga K "law"))
  g_made_or_none : mg "made_or_none" = some (.ref (He.ga K "made_or_none"))
  g_maker_of : mg "maker_of" = some (.ref (He.ga K "maker_of"))
  g_maker_row : mg "maker_row" = some (.ref (He.ga K "maker_row"))
  g_need_count : mg "need_count" = some (.ref (He.ga K "need_count"))
  g_need_ware : mg "need_ware" = some (.ref (He.ga K "need_ware"))
  g_number_in : mg "number_in" = some (.ref (He.ga K "number_in"))
  g_plain_in : mg "plain_in" = some (.ref (He.ga K "plain_in"))
  g_product_coming : mg "product_coming" = some (.ref (He.ga K "product_coming"))
  g_product_wanted : mg "product_wanted" = some (.ref (He.ga K "product_wanted"))
  g_put_hand : mg "put_hand" = some (.ref (He.ga K "put_hand"))
  g_put_maker : mg "put_maker" = some (.ref (He.ga K "put_maker"))
  g_read : mg "read" = some (.ref (He.ga K "read"))
  g_rounded_up : mg "rounded_up" = some (.ref (He.ga K "rounded_up"))
  tb_SIZES : TabN K WW "SIZES" c_SIZES
  xf_NoText : XfN K "NoText" "line"
  o_NoText : OexN K "NoText" "line"
  d_NoText_init : ∃ fd, FunD K "__init__" "NoText.__init__" (defArgs s_NoText_init) (defBody s_NoText_init) (defScope s_NoText_init) [] [] (He.ma K (He.ga K "NoText") "__init__") fd
  d__law_mixed : ∃ fd, FunD K "_law_mixed" "_law_mixed" (defArgs s__law_mixed) (defBody s__law_mixed) (defScope s__law_mixed) [] [] (He.ga K "_law_mixed") fd
  d__law_next : ∃ fd, FunD K "_law_next" "_law_next" (defArgs s__law_next) (defBody s__law_next) (defScope s__law_next) [] [] (He.ga K "_law_next") fd
  d_hand_row : ∃ fd, FunD K "hand_row" "hand_row" (defArgs s_hand_row) (defBody s_hand_row) (defScope s_hand_row) [] [] (He.ga K "hand_row") fd
  d_maker_row : ∃ fd, FunD K "maker_row" "maker_row" (defArgs s_maker_row) (defBody s_maker_row) (defScope s_maker_row) [] [] (He.ga K "maker_row") fd
  d__law_word : ∃ fd, FunD K "_law_word" "_law_word" (defArgs s__law_word) (defBody s__law_word) (defScope s__law_word) [] [] (He.ga K "_law_word") fd
  d_is_name : ∃ fd, FunD K "is_name" "is_name" (defArgs s_is_name) (defBody s_is_name) (defScope s_is_name) [] [] (He.ga K "is_name") fd
  d_number_in : ∃ fd, FunD K "number_in" "number_in" (defArgs s_number_in) (defBody s_number_in) (defScope s_number_in) [] [] (He.ga K "number_in") fd
  d_put_hand : ∃ fd, FunD K "put_hand" "put_hand" (defArgs s_put_hand) (defBody s_put_hand) (defScope s_put_hand) [] [] (He.ga K "put_hand") fd
  d_is_whole : ∃ fd, FunD K "is_whole" "is_whole" (defArgs s_is_whole) (defBody s_is_whole) (defScope s_is_whole) [] [] (He.ga K "is_whole") fd
  d_is_among : ∃ fd, FunD K "is_among" "is_among" (defArgs s_is_among) (defBody s_is_among) (defScope s_is_among) [] [] (He.ga K "is_among") fd
  d_is_pair : ∃ fd, FunD K "is_pair" "is_pair" (defArgs s_is_pair) (defBody s_is_pair) (defScope s_is_pair) [] [] (He.ga K "is_pair") fd
  d_is_due : ∃ fd, FunD K "is_due" "is_due" (defArgs s_is_due) (defBody s_is_due) (defScope s_is_due) [] [] (He.ga K "is_due") fd
  d_is_plain : ∃ fd, FunD K "is_plain" "is_plain" (defArgs s_is_plain) (defBody s_is_plain) (defScope s_is_plain) [] [] (He.ga K "is_plain") fd
  d_maker_of : ∃ fd, FunD K "maker_of" "maker_of" (defArgs s_maker_of) (defBody s_maker_of) (defScope s_maker_of) [] [] (He.ga K "maker_of") fd
  d_made_or_none : ∃ fd, FunD K "made_or_none" "made_or_none" (defArgs s_made_or_none) (defBody s_made_or_none) (defScope s_made_or_none) [] [] (He.ga K "made_or_none") fd
  d_due_in : ∃ fd, FunD K "due_in" "due_in" (defArgs s_due_in) (defBody s_due_in) (defScope s_due_in) [] [] (He.ga K "due_in") fd
  d_plain_in : ∃ fd, FunD K "plain_in" "plain_in" (defArgs s_plain_in) (defBody s_plain_in) (defScope s_plain_in) [] [] (He.ga K "plain_in") fd
  d_put_maker : ∃ fd, FunD K "put_maker" "put_maker" (defArgs s_put_maker) (defBody s_put_maker) (defScope s_put_maker) [] [] (He.ga K "put_maker") fd
  d_is_put : ∃ fd, FunD K "is_put" "is_put" (defArgs s_is_put) (defBody s_is_put) (defScope s_is_put) [] [] (He.ga K "is_put") fd
  d_read : ∃ fd, FunD K "read" "read" (defArgs s_read) (defBody s_read) (defScope s_read) [] [] (He.ga K "read") fd
  d__law_said : ∃ fd, FunD K "_law_said" "_law_said" (defArgs s__law_said) (defBody s__law_said) (defScope s__law_said) [] [] (He.ga K "_law_said") fd
  d__law_called_twice : ∃ fd, FunD K "_law_called_twice" "_law_called_twice" (defArgs s__law_called_twice) (defBody s__law_called_twice) (defScope s__law_called_twice) [] [] (He.ga K "_law_called_twice") fd
  d__law_full : ∃ fd, FunD K "_law_full" "_law_full" (defArgs s__law_full) (defBody s__law_full) (defScope s__law_full) [] [] (He.ga K "_law_full") fd
  d__law_amount : ∃ fd, FunD K "_law_amount" "_law_amount" (defArgs s__law_amount) (defBody s__law_amount) (defScope s__law_amount) [] [] (He.ga K "_law_amount") fd
  d__law_names : ∃ fd, FunD K "_law_names" "_law_names" (defArgs s__law_names) (defBody s__law_names) (defScope s__law_names) [] [] (He.ga K "_law_names") fd
  d__law_due : ∃ fd, FunD K "_law_due" "_law_due" (defArgs s__law_due) (defBody s__law_due) (defScope s__law_due) [] [] (He.ga K "_law_due") fd
  d__law_plain : ∃ fd, FunD K "_law_plain" "_law_plain" (defArgs s__law_plain) (defBody s__law_plain) (defScope s__law_plain) [] [] (He.ga K "_law_plain") fd
  d__law_market : ∃ fd, FunD K "_law_market" "_law_market" (defArgs s__law_market) (defBody s__law_market) (defScope s__law_market) [] [] (He.ga K "_law_market") fd
  d__law_maker_row : ∃ fd, FunD K "_law_maker_row" "_law_maker_row" (defArgs s__law_maker_row) (defBody s__law_maker_row) (defScope s__law_maker_row) [] [] (He.ga K "_law_maker_row") fd
  d__law_rows : ∃ fd, FunD K "_law_rows" "_law_rows" (defArgs s__law_rows) (defBody s__law_rows) (defScope s__law_rows) [] [] (He.ga K "_law_rows") fd
  d__law_state : ∃ fd, FunD K "_law_state" "_law_state" (defArgs s__law_state) (defBody s__law_state) (defScope s__law_state) [] [] (He.ga K "_law_state") fd
  d__law_wrong_row : ∃ fd, FunD K "_law_wrong_row" "_law_wrong_row" (defArgs s__law_wrong_row) (defBody s__law_wrong_row) (defScope s__law_wrong_row) [] [] (He.ga K "_law_wrong_row") fd
  d__law_wrong : ∃ fd, FunD K "_law_wrong" "_law_wrong" (defArgs s__law_wrong) (defBody s__law_wrong) (defScope s__law_wrong) [] [] (He.ga K "_law_wrong") fd
  d_law : ∃ fd, FunD K "law" "law" (defArgs s_law) (defBody s_law) (defScope s_law) [] [] (He.ga K "law") fd
  co_Market : ClsOk K "Market"
  k_Market : Mk K (He.ga K "Market") (He.ma K (He.ga K "Market") "__init__")
  d_Market_init : ∃ fd, FunD K "__init__" "Market.__init__" (defArgs s_Market___init__) (defBody s_Market___init__) (defScope s_Market___init__) [] [] (He.ma K (He.ga K "Market") "__init__") fd
  co_Product : ClsOk K "Product"
  k_Product : Mk K (He.ga K "Product") (He.ma K (He.ga K "Product") "__init__")
  d_Product_init : ∃ fd, FunD K "__init__" "Maker.__init__" (defArgs s_Maker___init__) (defBody s_Maker___init__) (defScope s_Maker___init__) [] [] (He.ma K (He.ga K "Product") "__init__") fd
  co_Stretch : ClsOk K "Stretch"
  k_Stretch : Mk K (He.ga K "Stretch") (He.ma K (He.ga K "Stretch") "__init__")
  d_Stretch_init : ∃ fd, FunD K "__init__" "Maker.__init__" (defArgs s_Maker___init__) (defBody s_Maker___init__) (defScope s_Maker___init__) [] [] (He.ma K (He.ga K "Stretch") "__init__") fd
  co_Sum : ClsOk K "Sum"
  k_Sum : Mk K (He.ga K "Sum") (He.ma K (He.ga K "Sum") "__init__")
  d_Sum_init : ∃ fd, FunD K "__init__" "Maker.__init__" (defArgs s_Maker___init__) (defBody s_Maker___init__) (defScope s_Maker___init__) [] [] (He.ma K (He.ga K "Sum") "__init__") fd
  m_Product_called : Meth K (He.ga K "Product") "called" (He.ma K (He.ga K "Product") "called")
  d_Product_called : ∃ fd, FunD K "called" "Maker.called" (defArgs s_Maker_called) (defBody s_Maker_called) (defScope s_Maker_called) [] [] (He.ma K (He.ga K "Product") "called") fd
  m_Stretch_called : Meth K (He.ga K "Stretch") "called" (He.ma K (He.ga K "Stretch") "called")
  d_Stretch_called : ∃ fd, FunD K "called" "Stretch.called" (defArgs s_Stretch_called) (defBody s_Stretch_called) (defScope s_Stretch_called) [] [] (He.ma K (He.ga K "Stretch") "called") fd
  m_Sum_called : Meth K (He.ga K "Sum") "called" (He.ma K (He.ga K "Sum") "called")
  d_Sum_called : ∃ fd, FunD K "called" "Sum.called" (defArgs s_Sum_called) (defBody s_Sum_called) (defScope s_Sum_called) [] [] (He.ma K (He.ga K "Sum") "called") fd
  m_Product_plain : Meth K (He.ga K "Product") "plain" (He.ma K (He.ga K "Product") "plain")
  d_Product_plain : ∃ fd, FunD K "plain" "Maker.plain" (defArgs s_Maker_plain) (defBody s_Maker_plain) (defScope s_Maker_plain) [] [] (He.ma K (He.ga K "Product") "plain") fd
  m_Stretch_plain : Meth K (He.ga K "Stretch") "plain" (He.ma K (He.ga K "Stretch") "plain")
  d_Stretch_plain : ∃ fd, FunD K "plain" "Maker.plain" (defArgs s_Maker_plain) (defBody s_Maker_plain) (defScope s_Maker_plain) [] [] (He.ma K (He.ga K "Stretch") "plain") fd
  m_Sum_plain : Meth K (He.ga K "Sum") "plain" (He.ma K (He.ga K "Sum") "plain")
  d_Sum_plain : ∃ fd, FunD K "plain" "Maker.plain" (defArgs s_Maker_plain) (defBody s_Maker_plain) (defScope s_Maker_plain) [] [] (He.ma K (He.ga K "Sum") "plain") fd
  m_Market_text : Meth K (He.ga K "Market") "text" (He.ma K (He.ga K "Market") "text")
  d_Market_text : ∃ fd, FunD K "text" "Market.text" (defArgs s_Market_text) (defBody s_Market_text) (defScope s_Market_text) [] [] (He.ma K (He.ga K "Market") "text") fd
section
variable {P : Program} {WW : World} {K : PySem.W.Frag} {mg : Str → Option Value} {base : Heap}
theorem sc_NoText_init : FnScope ["self", "line"] ["self", "line"] (defScope s_NoText_init) := ⟨rfl, rfl, rfl, by decide +kernel, rfl, by decide +kernel, by decide +kernel⟩
theorem oi_NoText (T : Txt WW K mg) : ∃ fd, FnOk P WW K mg base (L2.CX P WW) 1 (He.ma K (He.ga K "NoText") "__init__") fd ["self", "line"] (spOI K "line") ∧ Binds K fd ["self", "line"] [] := by
  obtain ⟨fd, F⟩ := T.d_NoText_init
  exact ⟨fd, fn_oinit F sc_NoText_init rfl rfl rfl (by decide +kernel) (by decide +kernel) (by decide +kernel) (by decide +kernel) (fun _ => rfl), F.bindsN fun _ _ _ _ _ _ us hl => match us, hl with | [_, _], _ => rfl⟩
theorem sc__law_mixed : FnScope ["_law_cell", "_law_k"] ["_law_cell", "_law_k"] (defScope s__law_mixed) := ⟨rfl, rfl, rfl, by decide +kernel, rfl, by decide +kernel, by decide +kernel⟩
theorem ok__law_mixed {f : Addr} {fd : FuncData} (F : FunD K "_law_mixed" "_law_mixed" (defArgs s__law_mixed) (defBody s__law_mixed) (defScope s__law_mixed) [] [] f fd) (T : Txt WW K mg) : FnOk P WW K mg base (L2.CX P WW) 1 f fd ["_law_cell", "_law_k"] (lSp K 2 sp__law_mixed) := by
  unfold sp__law_mixed
  refine fn_body (k := 0) (m := m__law_mixed) F sc__law_mixed (fun cdv A outer s H E w hr cx => ?_)
  have S := sc__law_mixed
  have hu64 := hr.units
  have hu1 := hu_of hr
  unfold m__law_mixed
  exact (jss_one (js_ret (je_op opN_mod (je_op opN_mul (je_op opN_mod (je_op opN_add (je_op opN_add (je_op opN_mul (je_var (i := 0)) (je_op opN_add je_int (je_op opN_mul (je_op opN_mul je_int (je_var (i := 1))) (je_var (i := 1))))) (je_op opN_mul je_int (je_var (i := 1)))) je_int) je_int) je_int) je_int)))
theorem fn__law_mixed {f : Addr} {fd : FuncData} (F : FunD K "_law_mixed" "_law_mixed" (defArgs s__law_mixed) (defBody s__law_mixed) (defScope s__law_mixed) [] [] f fd) (T : Txt WW K mg) : Fn P WW K mg base 1 f 2 sp__law_mixed :=
  ⟨⟨fd, ["_law_cell", "_law_k"], rfl, ok__law_mixed F T, F.bindsN fun _ _ _ _ _ _ us hl => match us, hl with | [_, _], _ => rfl⟩, F.kp⟩
theorem Fn__law_mixed (T : Txt WW K mg) : Fn P WW K mg base 1 (He.ga K "_law_mixed") 2 sp__law_mixed := by
  obtain ⟨fd, F⟩ := T.d__law_mixed
  exact fn__law_mixed F T
theorem sc__law_next : FnScope ["_law_state_here", "_law_k", "_law_at", "_law_number"] ["_law_state_here"] (defScope s__law_next) := ⟨rfl, rfl, rfl, by decide +kernel, rfl, by decide +kernel, by decide +kernel⟩
theorem ok__law_next {f : Addr} {fd : FuncData} (F : FunD K "_law_next" "_law_next" (defArgs s__law_next) (defBody s__law_next) (defScope s__law_next) [] [] f fd) (T : Txt WW K mg) : FnOk P WW K mg base (L2.CX P WW) 2 f fd ["_law_state_here"] (lSp K 1 sp__law_next) := by
  unfold sp__law_next
  refine fn_body (k := 1) (m := m__law_next) F sc__law_next (fun cdv A outer s H E w hr cx => ?_)
  have S := sc__law_next
  have hu64 := hr.units
  have hu1 := hu_of hr
  unfold m__law_next
  exact (jss_cons (js_asg (je_op opN_add (je_ix (ixN_seqv hu1) (je_var (i := 0)) je_str) je_int) (jg_ix hu1 (je_var (i := 0)) je_str))
    (jss_cons (js_set S.nd (je_ix (ixN_seqv hu1) (je_var (i := 0)) je_str))
    (jss_cons (js_if (jt_cmp (opN_eq hu64) (je_ix (ixN_seqv hu1) (je_var (i := 0)) je_str) (je_lst ja_nil) (nomark _))
    (jss_one (js_ret (je_call cx (Fn__law_mixed T) T.g__law_mixed (hr.mono (by decide)) (ja_cons (je_op opN_mul je_int (je_var (i := 1))) (ja_cons (je_op opN_mod (je_var (i := 1)) je_int) ja_nil)))))
    jss_nil)
    (jss_cons (js_set S.nd (je_op opN_mod (je_var (i := 1)) (je_callB callN_len T.f_len (ja_cons (je_ix (ixN_seqv hu1) (je_var (i := 0)) je_str) ja_nil))))
    (jss_cons (js_if (jt_w (jw_and (jt_cmp opN_ge (je_ix (ixN_seqv hu1) (je_ix (ixN_seqv hu1) (je_var (i := 0)) je_str) (je_var (i := 2))) (je_op opN_pow je_int je_int) (nomark _)) (jw_and1 (jt_cmp opN_gt (je_ix (ixN_seqv hu1) (je_ix (ixN_seqv hu1) (je_var (i := 0)) je_str) (je_var (i := 2))) je_int (nomark _)))))
    (jss_cons (js_set S.nd (je_op opN_mod (je_ix (ixN_seqv hu1) (je_ix (ixN_seqv hu1) (je_var (i := 0)) je_str) (je_var (i := 2))) je_int))
    (jss_cons (js_asg (je_op opN_div (je_ix (ixN_seqv hu1) (je_ix (ixN_seqv hu1) (je_var (i := 0)) je_str) (je_var (i := 2))) je_int) (jg_ix hu1 (je_ix (ixN_seqv hu1) (je_var (i := 0)) je_str) (je_var (i := 2))))
    (jss_one (js_ret (je_var (i := 3))))))
    jss_nil)
    (jss_one (js_ret (je_call cx (Fn__law_mixed T) T.g__law_mixed (hr.mono (by decide)) (ja_cons (je_op opN_add (je_ix (ixN_seqv hu1) (je_ix (ixN_seqv hu1) (je_var (i := 0)) je_str) (je_var (i := 2))) (je_op opN_mul je_int (je_var (i := 1)))) (ja_cons (je_op opN_mod (je_var (i := 1)) je_int) ja_nil))))))))))
theorem fn__law_next {f : Addr} {fd : FuncData} (F : FunD K "_law_next" "_law_next" (defArgs s__law_next) (defBody s__law_next) (defScope s__law_next) [] [] f fd) (T : Txt WW K mg) : Fn P WW K mg base 2 f 1 sp__law_next :=
  ⟨⟨fd, ["_law_state_here"], rfl, ok__law_next F T, F.bindsN fun _ _ _ _ _ _ us hl => match us, hl with | [_], _ => rfl⟩, F.kp⟩
theorem Fn__law_next (T : Txt WW K mg) : Fn P WW K mg base 2 (He.ga K "_law_next") 1 sp__law_next := by
  obtain ⟨fd, F⟩ := T.d__law_next
  exact fn__law_next F T
theorem sc_Maker_called : FnScope ["self"] ["self"] (defScope s_Maker_called) := ⟨rfl, rfl, rfl, by decide +kernel, rfl, by decide +kernel, by decide +kernel⟩
theorem ok_Maker_called {f : Addr} {fd : FuncData} (F : FunD K "called" "Maker.called" (defArgs s_Maker_called) (defBody s_Maker_called) (defScope s_Maker_called) [] [] f fd) (T : Txt WW K mg) : FnOk P WW K mg base (L2.CX P WW) 1 f fd ["self"] (lSp K 1 sp_Maker_called) := by
  unfold sp_Maker_called
  refine fn_body (k := 0) (m := m_Maker_called) F sc_Maker_called (fun cdv A outer s H E w hr cx => ?_)
  have S := sc_Maker_called
  have hu64 := hr.units
  have hu1 := hu_of hr
  unfold m_Maker_called
  exact (jss_one (js_ret je_str))
theorem fn_Maker_called {f : Addr} {fd : FuncData} (F : FunD K "called" "Maker.called" (defArgs s_Maker_called) (defBody s_Maker_called) (defScope s_Maker_called) [] [] f fd) (T : Txt WW K mg) : Fn P WW K mg base 1 f 1 sp_Maker_called :=
  ⟨⟨fd, ["self"], rfl, ok_Maker_called F T, F.bindsN fun _ _ _ _ _ _ us hl => match us, hl with | [_], _ => rfl⟩, F.kp⟩
theorem sc_Stretch_called : FnScope ["self"] ["self"] (defScope s_Stretch_called) := ⟨rfl, rfl, rfl, by decide +kernel, rfl, by decide +kernel, by decide +kernel⟩
theorem ok_Stretch_called {f : Addr} {fd : FuncData} (F : FunD K "called" "Stretch.called" (defArgs s_Stretch_called) (defBody s_Stretch_called) (defScope s_Stretch_called) [] [] f fd) (T : Txt WW K mg) : FnOk P WW K mg base (L2.CX P WW) 1 f fd ["self"] (lSp K 1 sp_Stretch_called) := by
  unfold sp_Stretch_called
  refine fn_body (k := 0) (m := m_Stretch_called) F sc_Stretch_called (fun cdv A outer s H E w hr cx => ?_)
  have S := sc_Stretch_called
  have hu64 := hr.units
  have hu1 := hu_of hr
  unfold m_Stretch_called
  exact (jss_one (js_ret je_str))
theorem fn_Stretch_called {f : Addr} {fd : FuncData} (F : FunD K "called" "Stretch.called" (defArgs s_Stretch_called) (defBody s_Stretch_called) (defScope s_Stretch_called) [] [] f fd) (T : Txt WW K mg) : Fn P WW K mg base 1 f 1 sp_Stretch_called :=
  ⟨⟨fd, ["self"], rfl, ok_Stretch_called F T, F.bindsN fun _ _ _ _ _ _ us hl => match us, hl with | [_], _ => rfl⟩, F.kp⟩
theorem sc_Sum_called : FnScope ["self"] ["self"] (defScope s_Sum_called) := ⟨rfl, rfl, rfl, by decide +kernel, rfl, by decide +kernel, by decide +kernel⟩
theorem ok_Sum_called {f : Addr} {fd : FuncData} (F : FunD K "called" "Sum.called" (defArgs s_Sum_called) (defBody s_Sum_called) (defScope s_Sum_called) [] [] f fd) (T : Txt WW K mg) : FnOk P WW K mg base (L2.CX P WW) 1 f fd ["self"] (lSp K 1 sp_Sum_called) := by
  unfold sp_Sum_called
  refine fn_body (k := 0) (m := m_Sum_called) F sc_Sum_called (fun cdv A outer s H E w hr cx => ?_)
  have S := sc_Sum_called
  have hu64 := hr.units
  have hu1 := hu_of hr
  unfold m_Sum_called
  exact (jss_one (js_ret je_str))
theorem fn_Sum_called {f : Addr} {fd : FuncData} (F : FunD K "called" "Sum.called" (defArgs s_Sum_called) (defBody s_Sum_called) (defScope s_Sum_called) [] [] f fd) (T : Txt WW K mg) : Fn P WW K mg base 1 f 1 sp_Sum_called :=
  ⟨⟨fd, ["self"], rfl, ok_Sum_called F T, F.bindsN fun _ _ _ _ _ _ us hl => match us, hl with | [_], _ => rfl⟩, F.kp⟩
theorem mk_Maker_called (T : Txt WW K mg) : MtK P WW K mg base "called" mt_Maker_called 1 := by
  refine ⟨fun c n sp h => ?_⟩
  unfold mt_Maker_called at h
  split at h
  · rename_i e; subst e; cases h
    obtain ⟨fd, F⟩ := T.d_Product_called
    exact ⟨_, T.m_Product_called, (fn_Maker_called F T).mono (by decide)⟩
  split at h
  · rename_i e; subst e; cases h
    obtain ⟨fd, F⟩ := T.d_Stretch_called
    exact ⟨_, T.m_Stretch_called, (fn_Stretch_called F T).mono (by decide)⟩
  split at h
  · rename_i e; subst e; cases h
    obtain ⟨fd, F⟩ := T.d_Sum_called
    exact ⟨_, T.m_Sum_called, (fn_Sum_called F T).mono (by decide)⟩
  cases h
theorem sc_Maker_plain : FnScope ["self"] ["self"] (defScope s_Maker_plain) := ⟨rfl, rfl, rfl, by decide +kernel, rfl, by decide +kernel, by decide +kernel⟩
theorem ok_Maker_plain {f : Addr} {fd : FuncData} (F : FunD K "plain" "Maker.plain" (defArgs s_Maker_plain) (defBody s_Maker_plain) (defScope s_Maker_plain) [] [] f fd) (T : Txt WW K mg) : FnOk P WW K mg base (L2.CX P WW) 2 f fd ["self"] (lSp K 1 sp_Maker_plain) := by
  unfold sp_Maker_plain
  refine fn_body (k := 1) (m := m_Maker_plain) F sc_Maker_plain (fun cdv A outer s H E w hr cx => ?_)
  have S := sc_Maker_plain
  have hu64 := hr.units
  have hu1 := hu_of hr
  unfold m_Maker_plain
  exact (jss_one (js_ret (je_op opN_add (je_tup (ja_cons (je_methK0 cx (mk_Maker_called T) (hr.mono (by decide)) (je_var (i := 0)) ) (ja_cons (je_ix (ixN_seqv hu1) (je_fld (je_var (i := 0))) je_int) (ja_cons (je_ix (ixN_seqv hu1) (je_fld (je_var (i := 0))) je_int) (ja_cons (je_fld (je_var (i := 0))) ja_nil))))) (je_fld (je_var (i := 0))))))
theorem fn_Maker_plain {f : Addr} {fd : FuncData} (F : FunD K "plain" "Maker.plain" (defArgs s_Maker_plain) (defBody s_Maker_plain) (defScope s_Maker_plain) [] [] f fd) (T : Txt WW K mg) : Fn P WW K mg base 2 f 1 sp_Maker_plain :=
  ⟨⟨fd, ["self"], rfl, ok_Maker_plain F T, F.bindsN fun _ _ _ _ _ _ us hl => match us, hl with | [_], _ => rfl⟩, F.kp⟩
theorem sc_hand_row : FnScope ["name", "purse"] ["name", "purse"] (defScope s_hand_row) := ⟨rfl, rfl, rfl, by decide +kernel, rfl, by decide +kernel, by decide +kernel⟩
theorem ok_hand_row {f : Addr} {fd : FuncData} (F : FunD K "hand_row" "hand_row" (defArgs s_hand_row) (defBody s_hand_row) (defScope s_hand_row) [] [] f fd) (T : Txt WW K mg) : FnOk P WW K mg base (L2.CX P WW) 1 f fd ["name", "purse"] (lSp K 2 sp_hand_row) := by
  unfold sp_hand_row
  refine fn_body (k := 0) (m := m_hand_row) F sc_hand_row (fun cdv A outer s H E w hr cx => ?_)
  have S := sc_hand_row
  have hu64 := hr.units
  have hu1 := hu_of hr
  unfold m_hand_row
  exact (jss_one (js_ret (je_join je_str (je_lst (ja_cons je_str (ja_cons (je_var (i := 0)) (ja_cons (je_callTy callN_str T.f_str (ja_cons (je_ix (ixN_seqv hu1) (je_var (i := 1)) je_int) ja_nil)) (ja_cons (je_callTy callN_str T.f_str (ja_cons (je_ix (ixN_seqv hu1) (je_var (i := 1)) je_int) ja_nil)) ja_nil))))))))
theorem fn_hand_row {f : Addr} {fd : FuncData} (F : FunD K "hand_row" "hand_row" (defArgs s_hand_row) (defBody s_hand_row) (defScope s_hand_row) [] [] f fd) (T : Txt WW K mg) : Fn P WW K mg base 1 f 2 sp_hand_row :=
  ⟨⟨fd, ["name", "purse"], rfl, ok_hand_row F T, F.bindsN fun _ _ _ _ _ _ us hl => match us, hl with | [_, _], _ => rfl⟩, F.kp⟩
theorem Fn_hand_row (T : Txt WW K mg) : Fn P WW K mg base 1 (He.ga K "hand_row") 2 sp_hand_row := by
  obtain ⟨fd, F⟩ := T.d_hand_row
  exact fn_hand_row F T
theorem sc_maker_row : FnScope ["name", "plain", "sort", "salt", "cloth", "due", "words", "pair"] ["name", "plain"] (defScope s_maker_row) := ⟨rfl, rfl, rfl, by decide +kernel, rfl, by decide +kernel, by decide +kernel⟩
theorem ok_maker_row {f : Addr} {fd : FuncData} (F : FunD K "maker_row" "maker_row" (defArgs s_maker_row) (defBody s_maker_row) (defScope s_maker_row) [] [] f fd) (T : Txt WW K mg) : FnOk P WW K mg base (L2.CX P WW) 1 f fd ["name", "plain"] (lSp K 2 sp_maker_row) := by
  unfold sp_maker_row
  refine fn_body (k := 0) (m := m_maker_row) F sc_maker_row (fun cdv A outer s H E w hr cx => ?_)
  have S := sc_maker_row
  have hu64 := hr.units
  have hu1 := hu_of hr
  unfold m_maker_row
  exact (jss_cons (js_asg (je_slice (je_var (i := 1)) jo_none (jo_some je_int)) (jg_tup cx (jgs_cons (jg_name S.nd) (jgs_cons (jg_name S.nd) (jgs_cons (jg_name S.nd) (jgs_cons (jg_name S.nd) jgs_nil))))))
    (jss_cons (js_set S.nd (je_lst (ja_cons je_str (ja_cons (je_var (i := 0)) (ja_cons (je_var (i := 2)) (ja_cons (je_callTy callN_str T.f_str (ja_cons (je_var (i := 3)) ja_nil)) (ja_cons (je_callTy callN_str T.f_str (ja_cons (je_var (i := 4)) ja_nil)) (ja_cons (je_op opN_add (je_op opN_add (je_callTy callN_str T.f_str (ja_cons (je_ix (ixN_seqv hu1) (je_var (i := 5)) je_int) ja_nil)) je_str) (je_callTy callN_str T.f_str (ja_cons (je_ix (ixN_seqv hu1) (je_var (i := 5)) je_int) ja_nil))) ja_nil))))))))
    (jss_cons (js_for cx (je_slice (je_var (i := 1)) (jo_some je_int) jo_none) (jg_name S.nd)
    (jss_one (js_expr (je_extend (je_var (i := 6)) (ja_cons (je_lst (ja_cons (je_callTy callN_str T.f_str (ja_cons (je_ix (ixN_seqv hu1) (je_var (i := 7)) je_int) ja_nil)) (ja_cons (je_callTy callN_str T.f_str (ja_cons (je_ix (ixN_seqv hu1) (je_var (i := 7)) je_int) ja_nil)) ja_nil))) ja_nil)))))
    (jss_one (js_ret (je_join je_str (je_var (i := 6))))))))
theorem fn_maker_row {f : Addr} {fd : FuncData} (F : FunD K "maker_row" "maker_row" (defArgs s_maker_row) (defBody s_maker_row) (defScope s_maker_row) [] [] f fd) (T : Txt WW K mg) : Fn P WW K mg base 1 f 2 sp_maker_row :=
  ⟨⟨fd, ["name", "plain"], rfl, ok_maker_row F T, F.bindsN fun _ _ _ _ _ _ us hl => match us, hl with | [_, _], _ => rfl⟩, F.kp⟩
theorem Fn_maker_row (T : Txt WW K mg) : Fn P WW K mg base 1 (He.ga K "maker_row") 2 sp_maker_row := by
  obtain ⟨fd, F⟩ := T.d_maker_row
  exact fn_maker_row F T
theorem mk_Maker_plain (T : Txt WW K mg) : MtK P WW K mg base "plain" mt_Maker_plain 2 := by
  refine ⟨fun c n sp h => ?_⟩
  unfold mt_Maker_plain at h
  split at h
  · rename_i e; subst e; cases h
    obtain ⟨fd, F⟩ := T.d_Product_plain
    exact ⟨_, T.m_Product_plain, (fn_Maker_plain F T).mono (by decide)⟩
  split at h
  · rename_i e; subst e; cases h
    obtain ⟨fd, F⟩ := T.d_Stretch_plain
    exact ⟨_, T.m_Stretch_plain, (fn_Maker_plain F T).mono (by decide)⟩
  split at h
  · rename_i e; subst e; cases h
    obtain ⟨fd, F⟩ := T.d_Sum_plain
    exact ⟨_, T.m_Sum_plain, (fn_Maker_plain F T).mono (by decide)⟩
  cases h
theorem sc_Market_text : FnScope ["self", "rows", "name", "maker", "purse"] ["self"] (defScope s_Market_text) := ⟨rfl, rfl, rfl, by decide +kernel, rfl, by decide +kernel, by decide +kernel⟩
theorem ok_Market_text {f : Addr} {fd : FuncData} (F : FunD K "text" "Market.text" (defArgs s_Market_text) (defBody s_Market_text) (defScope s_Market_text) [] [] f fd) (T : Txt WW K mg) : FnOk P WW K mg base (L2.CX P WW) 3 f fd ["self"] (lSp K 1 sp_Market_text) := by
  unfold sp_Market_text
  refine fn_body (k := 2) (m := m_Market_text) F sc_Market_text (fun cdv A outer s H E w hr cx => ?_)
  have S := sc_Market_text
  have hu64 := hr.units
  have hu1 := hu_of hr
  unfold m_Market_text
  exact (jss_cons (js_lock (js_setLc (own := [("name", 2), ("maker", 3)]) cx S.nd (ji_items (je_fld (je_var (i := 0)))) (by rfl) (fun _ _ _ _ _ cx => (jgv_tup cx (jgvs_cons (jgv_name S.nd (by decide)) (jgvs_cons (jgv_name S.nd (by decide)) jgvs_nil)))) (fun _ _ _ _ _ cx => jts_nil) (fun _ _ _ _ _ cx => (je_call cx (Fn_maker_row T) T.g_maker_row (hr.mono (by decide)) (ja_cons (je_var (i := 2)) (ja_cons (je_methK0 cx (mk_Maker_plain T) (hr.mono (by decide)) (je_var (i := 3)) ) ja_nil))))))
    (jss_cons (js_expr (je_extend (je_var (i := 1)) (ja_cons (je_lock (je_lc (own := [("name", 2), ("purse", 4)]) cx S.nd (ji_items (je_fld (je_var (i := 0)))) (by rfl) (fun _ _ _ _ _ cx => (jgv_tup cx (jgvs_cons (jgv_name S.nd (by decide)) (jgvs_cons (jgv_name S.nd (by decide)) jgvs_nil)))) (fun _ _ _ _ _ cx => jts_nil) (fun _ _ _ _ _ cx => (je_call cx (Fn_hand_row T) T.g_hand_row (hr.mono (by decide)) (ja_cons (je_var (i := 2)) (ja_cons (je_var (i := 4)) ja_nil)))))) ja_nil)))
    (jss_one (js_ret (je_join je_str (je_var (i := 1)))))))
theorem fn_Market_text {f : Addr} {fd : FuncData} (F : FunD K "text" "Market.text" (defArgs s_Market_text) (defBody s_Market_text) (defScope s_Market_text) [] [] f fd) (T : Txt WW K mg) : Fn P WW K mg base 3 f 1 sp_Market_text :=
  ⟨⟨fd, ["self"], rfl, ok_Market_text F T, F.bindsN fun _ _ _ _ _ _ us hl => match us, hl with | [_], _ => rfl⟩, F.kp⟩
theorem sc__law_word : FnScope ["_law_e", "_law_found", "_law_words", "_law_word_here", "_law_is_so"] ["_law_e"] (defScope s__law_word) := ⟨rfl, rfl, rfl, by decide +kernel, rfl, by decide +kernel, by decide +kernel⟩
theorem ok__law_word {f : Addr} {fd : FuncData} (F : FunD K "_law_word" "_law_word" (defArgs s__law_word) (defBody s__law_word) (defScope s__law_word) [] [] f fd) (T : Txt WW K mg) : FnOk P WW K mg base (L2.CX P WW) 1 f fd ["_law_e"] (lSp K 1 sp__law_word) := by
  unfold sp__law_word
  refine fn_body (k := 0) (m := m__law_word) F sc__law_word (fun cdv A outer s H E w hr cx => ?_)
  have S := sc__law_word
  have hu64 := hr.units
  have hu1 := hu_of hr
  unfold m__law_word
  exact (jss_cons (js_set S.nd (je_lst (ja_cons (je_tup (ja_cons je_str (ja_cons (je_callB (callN_isi T.kf) T.f_isinstance (ja_cons (je_var (i := 0)) (ja_cons (je_cls T.g_BadMaker) ja_nil))) ja_nil))) (ja_cons (je_tup (ja_cons je_str (ja_cons (je_callB (callN_isi T.kf) T.f_isinstance (ja_cons (je_var (i := 0)) (ja_cons (je_cls T.g_BadWare) ja_nil))) ja_nil))) ja_nil))))
    (jss_cons (js_set S.nd (je_op opN_add (je_var (i := 1)) (je_lst (ja_cons (je_tup (ja_cons je_str (ja_cons (je_callB (callN_isi T.kf) T.f_isinstance (ja_cons (je_var (i := 0)) (ja_cons (je_cls T.g_BadCount) ja_nil))) ja_nil))) (ja_cons (je_tup (ja_cons je_str (ja_cons (je_callB (callN_isi T.kf) T.f_isinstance (ja_cons (je_var (i := 0)) (ja_cons (je_cls T.g_TooMuch) ja_nil))) ja_nil))) ja_nil)))))
    (jss_cons (js_set S.nd (je_op opN_add (je_var (i := 1)) (je_lst (ja_cons (je_tup (ja_cons je_str (ja_cons (je_callB (callN_isi T.kf) T.f_isinstance (ja_cons (je_var (i := 0)) (ja_cons (je_cls T.g_BadShares) ja_nil))) ja_nil))) (ja_cons (je_tup (ja_cons je_str (ja_cons (je_callB (callN_isi T.kf) T.f_isinstance (ja_cons (je_var (i := 0)) (ja_cons (je_cls T.g_NoText) ja_nil))) ja_nil))) ja_nil)))))
    (jss_cons (js_set S.nd (je_op opN_add (je_var (i := 1)) (je_lst (ja_cons (je_tup (ja_cons je_str (ja_cons (je_callB (callN_isi T.kf) T.f_isinstance (ja_cons (je_var (i := 0)) (ja_cons (je_cls T.g_NoName) ja_nil))) ja_nil))) (ja_cons (je_tup (ja_cons je_str (ja_cons (je_callB (callN_isi T.kf) T.f_isinstance (ja_cons (je_var (i := 0)) (ja_cons (je_cls T.g_TooLittle) ja_nil))) ja_nil))) ja_nil)))))
    (jss_cons (js_set S.nd (je_op opN_add (je_var (i := 1)) (je_lst (ja_cons (je_tup (ja_cons je_str (ja_cons (je_callB (callN_isi T.kf) T.f_isinstance (ja_cons (je_var (i := 0)) (ja_cons (je_cls T.g_BadRumour) ja_nil))) ja_nil))) (ja_cons (je_tup (ja_cons je_str (ja_cons (je_callB (callN_isi T.kf) T.f_isinstance (ja_cons (je_var (i := 0)) (ja_cons (je_cls T.g_NoParting) ja_nil))) ja_nil))) ja_nil)))))
    (jss_cons (js_set S.nd (je_op opN_add (je_var (i := 1)) (je_lst (ja_cons (je_tup (ja_cons je_str (ja_cons (je_callB (callN_isi T.kf) T.f_isinstance (ja_cons (je_var (i := 0)) (ja_cons (je_cls T.g_NoLine) ja_nil))) ja_nil))) (ja_cons (je_tup (ja_cons je_str (ja_cons (je_not (je_callB (callN_isi T.kf) T.f_isinstance (ja_cons (je_var (i := 0)) (ja_cons (je_tyB T.f_ValueError) ja_nil)))) ja_nil))) ja_nil)))))
    (jss_cons (js_setLc (own := [("_law_word_here", 3), ("_law_is_so", 4)]) cx S.nd (ji_seq (je_var (i := 1))) (by rfl) (fun _ _ _ _ _ cx => (jgv_tup cx (jgvs_cons (jgv_name S.nd (by decide)) (jgvs_cons (jgv_name S.nd (by decide)) jgvs_nil)))) (fun _ _ _ _ _ cx => (jts_one (jt_val (je_var (i := 4))))) (fun _ _ _ _ _ cx => (je_var (i := 3))))
    (jss_one (js_ret (je_if (jt_cmp (opN_eq hu64) (je_callB callN_len T.f_len (ja_cons (je_var (i := 2)) ja_nil)) je_int (nomark _)) (je_ix (ixN_seqv hu1) (je_var (i := 2)) je_int) je_str))))))))))
theorem fn__law_word {f : Addr} {fd : FuncData} (F : FunD K "_law_word" "_law_word" (defArgs s__law_word) (defBody s__law_word) (defScope s__law_word) [] [] f fd) (T : Txt WW K mg) : Fn P WW K mg base 1 f 1 sp__law_word :=
  ⟨⟨fd, ["_law_e"], rfl, ok__law_word F T, F.bindsN fun _ _ _ _ _ _ us hl => match us, hl with | [_], _ => rfl⟩, F.kp⟩
theorem Fn__law_word (T : Txt WW K mg) : Fn P WW K mg base 1 (He.ga K "_law_word") 1 sp__law_word := by
  obtain ⟨fd, F⟩ := T.d__law_word
  exact fn__law_word F T
theorem sc_Market___init__ : FnScope ["self"] ["self"] (defScope s_Market___init__) := ⟨rfl, rfl, rfl, by decide +kernel, rfl, by decide +kernel, by decide +kernel⟩
theorem ok_Market___init__ {f : Addr} {fd : FuncData} (F : FunD K "__init__" "Market.__init__" (defArgs s_Market___init__) (defBody s_Market___init__) (defScope s_Market___init__) [] [] f fd) (T : Txt WW K mg) : FnOk P WW K mg base (L2.CX P WW) 1 f fd ["self"] (lSp K 1 sp_Market___init__) := by
  unfold sp_Market___init__
  refine fn_body (k := 0) (m := m_Market___init__) F sc_Market___init__ (fun cdv A outer s H E w hr cx => ?_)
  have S := sc_Market___init__
  have hu64 := hr.units
  have hu1 := hu_of hr
  unfold m_Market___init__
  exact (jss_cons (js_fld (je_var (i := 0)) je_dic0)
    (jss_one (js_fld (je_var (i := 0)) je_dic0)))
theorem fn_Market___init__ {f : Addr} {fd : FuncData} (F : FunD K "__init__" "Market.__init__" (defArgs s_Market___init__) (defBody s_Market___init__) (defScope s_Market___init__) [] [] f fd) (T : Txt WW K mg) : Fn P WW K mg base 1 f 1 sp_Market___init__ :=
  ⟨⟨fd, ["self"], rfl, ok_Market___init__ F T, F.bindsN fun _ _ _ _ _ _ us hl => match us, hl with | [_], _ => rfl⟩, F.kp⟩
theorem sc_is_name : FnScope ["word", "sign"] ["word"] (defScope s_is_name) := ⟨rfl, rfl, rfl, by decide +kernel, rfl, by decide +kernel, by decide +kernel⟩
theorem ok_is_name {f : Addr} {fd : FuncData} (F : FunD K "is_name" "is_name" (defArgs s_is_name) (defBody s_is_name) (defScope s_is_name) [] [] f fd) (T : Txt WW K mg) : FnOk P WW K mg base (L2.CX P WW) 1 f fd ["word"] (lSp K 1 sp_is_name) := by
  unfold sp_is_name
  refine fn_body (k := 0) (m := m_is_name) F sc_is_name (fun cdv A outer s H E w hr cx => ?_)
  have S := sc_is_name
  have hu64 := hr.units
  have hu1 := hu_of hr
  unfold m_is_name
  exact (jss_one (js_ret (je_and (je_chain opN_le opN_le je_int (je_callB callN_len T.f_len (ja_cons (je_var (i := 0)) ja_nil)) (je_gint T.c_MOST_SIGNS)) (je_one (je_callB (callN_all cx.calm) T.f_all (ja_cons (je_lc (own := [("sign", 1)]) cx S.nd (ji_seq (je_var (i := 0))) (by rfl) (fun _ _ _ _ _ cx => (jgv_name S.nd (by decide))) (fun _ _ _ _ _ cx => jts_nil) (fun _ _ _ _ _ cx => (je_cmp (opN_in hu1) (je_var (i := 1)) (je_gstr T.c_SMALL) (by rfl)))) ja_nil))))))
theorem fn_is_name {f : Addr} {fd : FuncData} (F : FunD K "is_name" "is_name" (defArgs s_is_name) (defBody s_is_name) (defScope s_is_name) [] [] f fd) (T : Txt WW K mg) : Fn P WW K mg base 1 f 1 sp_is_name :=
  ⟨⟨fd, ["word"], rfl, ok_is_name F T, F.bindsN fun _ _ _ _ _ _ us hl => match us, hl with | [_], _ => rfl⟩, F.kp⟩
theorem Fn_is_name (T : Txt WW K mg) : Fn P WW K mg base 1 (He.ga K "is_name") 1 sp_is_name := by
  obtain ⟨fd, F⟩ := T.d_is_name
  exact fn_is_name F T
theorem sc_number_in : FnScope ["word", "sign"] ["word"] (defScope s_number_in) := ⟨rfl, rfl, rfl, by decide +kernel, rfl, by decide +kernel, by decide +kernel⟩
theorem ok_number_in {f : Addr} {fd : FuncData} (F : FunD K "number_in" "number_in" (defArgs s_number_in) (defBody s_number_in) (defScope s_number_in) [] [] f fd) (T : Txt WW K mg) : FnOk P WW K mg base (L2.CX P WW) 1 f fd ["word"] (lSp K 1 sp_number_in) := by
  unfold sp_number_in
  refine fn_body (k := 0) (m := m_number_in) F sc_number_in (fun cdv A outer s H E w hr cx => ?_)
  have S := sc_number_in
  have hu64 := hr.units
  have hu1 := hu_of hr
  unfold m_number_in
  exact (jss_cons (js_if (jt_w (jw_or (jt_not (jt_chain opN_le opN_le je_int (je_callB callN_len T.f_len (ja_cons (je_var (i := 0)) ja_nil)) (je_gint T.c_MOST_FIGURES))) (jw_or1 (jt_not (jt_val (je_callB (callN_all cx.calm) T.f_all (ja_cons (je_lc (own := [("sign", 1)]) cx S.nd (ji_seq (je_var (i := 0))) (by rfl) (fun _ _ _ _ _ cx => (jgv_name S.nd (by decide))) (fun _ _ _ _ _ cx => jts_nil) (fun _ _ _ _ _ cx => (je_cmp (opN_in hu1) (je_var (i := 1)) (je_gstr T.c_FIGURES) (by rfl)))) ja_nil)))))))
    (jss_one (js_ret je_non))
    jss_nil)
    (jss_cons (js_if (jt_w (jw_and (jt_cmp (opN_eq hu64) (je_ix (ixN_seqv hu1) (je_var (i := 0)) je_int) je_str (nomark _)) (jw_and1 (jt_cmp (opN_ne hu64) (je_var (i := 0)) je_str (nomark _)))))
    (jss_one (js_ret je_non))
    jss_nil)
    (jss_one (js_ret (je_callTy callN_int T.f_int (ja_cons (je_var (i := 0)) ja_nil))))))
theorem fn_number_in {f : Addr} {fd : FuncData} (F : FunD K "number_in" "number_in" (defArgs s_number_in) (defBody s_number_in) (defScope s_number_in) [] [] f fd) (T : Txt WW K mg) : Fn P WW K mg base 1 f 1 sp_number_in :=
  ⟨⟨fd, ["word"], rfl, ok_number_in F T, F.bindsN fun _ _ _ _ _ _ us hl => match us, hl with | [_], _ => rfl⟩, F.kp⟩
theorem Fn_number_in (T : Txt WW K mg) : Fn P WW K mg base 1 (He.ga K "number_in") 1 sp_number_in := by
  obtain ⟨fd, F⟩ := T.d_number_in
  exact fn_number_in F T
theorem sc_put_hand : FnScope ["market", "words", "purse"] ["market", "words"] (defScope s_put_hand) := ⟨rfl, rfl, rfl, by decide +kernel, rfl, by decide +kernel, by decide +kernel⟩
theorem ok_put_hand {f : Addr} {fd : FuncData} (F : FunD K "put_hand" "put_hand" (defArgs s_put_hand) (defBody s_put_hand) (defScope s_put_hand) [] [] f fd) (T : Txt WW K mg) : FnOk P WW K mg base (L2.CX P WW) 2 f fd ["market", "words"] (lSp K 2 sp_put_hand) := by
  unfold sp_put_hand
  refine fn_body (k := 1) (m := m_put_hand) F sc_put_hand (fun cdv A outer s H E w hr cx => ?_)
  have S := sc_put_hand
  have hu64 := hr.units
  have hu1 := hu_of hr
  unfold m_put_hand
  exact (jss_cons (js_if (jt_w (jw_or (jt_cmp (opN_ne hu64) (je_callB callN_len T.f_len (ja_cons (je_var (i := 1)) ja_nil)) je_int (nomark _)) (jw_or (jt_cmp (opN_eq hu64) (je_callB callN_len T.f_len (ja_cons (je_fld (je_var (i := 0))) ja_nil)) (je_gint T.c_MOST_HANDS) (nomark _)) (jw_or1 (jt_cmp (opN_eqX hu64) (je_fld (je_var (i := 0))) je_dic0 (nomark _))))))
    (jss_one (js_ret je_bl))
    jss_nil)
    (jss_cons (js_set S.nd (je_tup (ja_cons (je_call cx (Fn_number_in T) T.g_number_in (hr.mono (by decide)) (ja_cons (je_ix (ixN_seqv hu1) (je_var (i := 1)) je_int) ja_nil)) (ja_cons (je_call cx (Fn_number_in T) T.g_number_in (hr.mono (by decide)) (ja_cons (je_ix (ixN_seqv hu1) (je_var (i := 1)) je_int) ja_nil)) ja_nil))))
    (jss_cons (js_if (jt_w (jw_or (jt_cmp (opN_in hu1) je_non (je_var (i := 2)) (by rfl)) (jw_or1 (jt_cmp opN_gt (je_callB (callN_max1 cx.calm hu64) T.f_max (ja_cons (je_var (i := 2)) ja_nil)) (je_gint T.c_MOST_GRAINS) (nomark _)))))
    (jss_one (js_ret je_bl))
    jss_nil)
    (jss_cons (js_asg (je_var (i := 2)) (jg_ix hu1 (je_fld (je_var (i := 0))) (je_ix (ixN_seqv hu1) (je_var (i := 1)) je_int)))
    (jss_one (js_ret je_bl))))))
theorem fn_put_hand {f : Addr} {fd : FuncData} (F : FunD K "put_hand" "put_hand" (defArgs s_put_hand) (defBody s_put_hand) (defScope s_put_hand) [] [] f fd) (T : Txt WW K mg) : Fn P WW K mg base 2 f 2 sp_put_hand :=
  ⟨⟨fd, ["market", "words"], rfl, ok_put_hand F T, F.bindsN fun _ _ _ _ _ _ us hl => match us, hl with | [_, _], _ => rfl⟩, F.kp⟩
theorem Fn_put_hand (T : Txt WW K mg) : Fn P WW K mg base 2 (He.ga K "put_hand") 2 sp_put_hand := by
  obtain ⟨fd, F⟩ := T.d_put_hand
  exact fn_put_hand F T
theorem sc_Maker___init__ : FnScope ["self", "plain"] ["self", "plain"] (defScope s_Maker___init__) := ⟨rfl, rfl, rfl, by decide +kernel, rfl, by decide +kernel, by decide +kernel⟩
theorem ok_Maker___init__ {f : Addr} {fd : FuncData} (F : FunD K "__init__" "Maker.__init__" (defArgs s_Maker___init__) (defBody s_Maker___init__) (defScope s_Maker___init__) [] [] f fd) (T : Txt WW K mg) : FnOk P WW K mg base (L2.CX P WW) 1 f fd ["self", "plain"] (lSp K 2 sp_Maker___init__) := by
  unfold sp_Maker___init__
  refine fn_body (k := 0) (m := m_Maker___init__) F sc_Maker___init__ (fun cdv A outer s H E w hr cx => ?_)
  have S := sc_Maker___init__
  have hu64 := hr.units
  have hu1 := hu_of hr
  unfold m_Maker___init__
  exact (jss_cons (js_fld (je_var (i := 0)) (je_lst (ja_cons (je_ix (ixN_seqv hu1) (je_var (i := 1)) je_int) (ja_cons (je_ix (ixN_seqv hu1) (je_var (i := 1)) je_int) ja_nil))))
    (jss_cons (js_fld (je_var (i := 0)) (je_ix (ixN_seqv hu1) (je_var (i := 1)) je_int))
    (jss_cons (js_fld (je_var (i := 0)) (je_slice (je_var (i := 1)) (jo_some je_int) jo_none))
    (jss_cons (js_fld (je_var (i := 0)) (je_op opN_sub (je_ix (ixN_seqv hu1) (je_ix (ixN_seqv hu1) (je_var (i := 1)) je_int) je_int) (je_ix (ixN_seqv hu1) (je_ix (ixN_seqv hu1) (je_var (i := 1)) je_int) je_int)))
    (jss_one (js_fld (je_var (i := 0)) (je_ix (ixN_seqv hu1) (je_ix (ixN_seqv hu1) (je_var (i := 1)) je_int) je_int)))))))
theorem fn_Maker___init__ {f : Addr} {fd : FuncData} (F : FunD K "__init__" "Maker.__init__" (defArgs s_Maker___init__) (defBody s_Maker___init__) (defScope s_Maker___init__) [] [] f fd) (T : Txt WW K mg) : Fn P WW K mg base 1 f 2 sp_Maker___init__ :=
  ⟨⟨fd, ["self", "plain"], rfl, ok_Maker___init__ F T, F.bindsN fun _ _ _ _ _ _ us hl => match us, hl with | [_, _], _ => rfl⟩, F.kp⟩
theorem sc_is_whole : FnScope ["thing"] ["thing"] (defScope s_is_whole) := ⟨rfl, rfl, rfl, by decide +kernel, rfl, by decide +kernel, by decide +kernel⟩
theorem ok_is_whole {f : Addr} {fd : FuncData} (F : FunD K "is_whole" "is_whole" (defArgs s_is_whole) (defBody s_is_whole) (defScope s_is_whole) [] [] f fd) (T : Txt WW K mg) : FnOk P WW K mg base (L2.CX P WW) 1 f fd ["thing"] (lSp K 1 sp_is_whole) := by
  unfold sp_is_whole
  refine fn_body (k := 0) (m := m_is_whole) F sc_is_whole (fun cdv A outer s H E w hr cx => ?_)
  have S := sc_is_whole
  have hu64 := hr.units
  have hu1 := hu_of hr
  unfold m_is_whole
  exact (jss_one (js_ret (je_and (je_callB (callN_isi T.kf) T.f_isinstance (ja_cons (je_var (i := 0)) (ja_cons (je_tyB T.f_int) ja_nil))) (je_one (je_not (je_callB (callN_isi T.kf) T.f_isinstance (ja_cons (je_var (i := 0)) (ja_cons (je_tyB T.f_bool) ja_nil))))))))
theorem fn_is_whole {f : Addr} {fd : FuncData} (F : FunD K "is_whole" "is_whole" (defArgs s_is_whole) (defBody s_is_whole) (defScope s_is_whole) [] [] f fd) (T : Txt WW K mg) : Fn P WW K mg base 1 f 1 sp_is_whole :=
  ⟨⟨fd, ["thing"], rfl, ok_is_whole F T, F.bindsN fun _ _ _ _ _ _ us hl => match us, hl with | [_], _ => rfl⟩, F.kp⟩
theorem Fn_is_whole (T : Txt WW K mg) : Fn P WW K mg base 1 (He.ga K "is_whole") 1 sp_is_whole := by
  obtain ⟨fd, F⟩ := T.d_is_whole
  exact fn_is_whole F T
theorem sc_is_among : FnScope ["thing", "least", "most"] ["thing", "least", "most"] (defScope s_is_among) := ⟨rfl, rfl, rfl, by decide +kernel, rfl, by decide +kernel, by decide +kernel⟩
theorem ok_is_among {f : Addr} {fd : FuncData} (F : FunD K "is_among" "is_among" (defArgs s_is_among) (defBody s_is_among) (defScope s_is_among) [] [] f fd) (T : Txt WW K mg) : FnOk P WW K mg base (L2.CX P WW) 2 f fd ["thing", "least", "most"] (lSp K 3 sp_is_among) := by
  unfold sp_is_among
  refine fn_body (k := 1) (m := m_is_among) F sc_is_among (fun cdv A outer s H E w hr cx => ?_)
  have S := sc_is_among
  have hu64 := hr.units
  have hu1 := hu_of hr
  unfold m_is_among
  exact (jss_one (js_ret (je_and (je_call cx (Fn_is_whole T) T.g_is_whole (hr.mono (by decide)) (ja_cons (je_var (i := 0)) ja_nil)) (je_one (je_chain opN_le opN_le (je_var (i := 1)) (je_var (i := 0)) (je_var (i := 2)))))))
theorem fn_is_among {f : Addr} {fd : FuncData} (F : FunD K "is_among" "is_among" (defArgs s_is_among) (defBody s_is_among) (defScope s_is_among) [] [] f fd) (T : Txt WW K mg) : Fn P WW K mg base 2 f 3 sp_is_among :=
  ⟨⟨fd, ["thing", "least", "most"], rfl, ok_is_among F T, F.bindsN fun _ _ _ _ _ _ us hl => match us, hl with | [_, _, _], _ => rfl⟩, F.kp⟩
theorem Fn_is_among (T : Txt WW K mg) : Fn P WW K mg base 2 (He.ga K "is_among") 3 sp_is_among := by
  obtain ⟨fd, F⟩ := T.d_is_among
  exact fn_is_among F T
theorem sc_is_pair : FnScope ["thing", "least", "most"] ["thing", "least", "most"] (defScope s_is_pair) := ⟨rfl, rfl, rfl, by decide +kernel, rfl, by decide +kernel, by decide +kernel⟩
theorem ok_is_pair {f : Addr} {fd : FuncData} (F : FunD K "is_pair" "is_pair" (defArgs s_is_pair) (defBody s_is_pair) (defScope s_is_pair) [] [] f fd) (T : Txt WW K mg) : FnOk P WW K mg base (L2.CX P WW) 3 f fd ["thing", "least", "most"] (lSp K 3 sp_is_pair) := by
  unfold sp_is_pair
  refine fn_body (k := 2) (m := m_is_pair) F sc_is_pair (fun cdv A outer s H E w hr cx => ?_)
  have S := sc_is_pair
  have hu64 := hr.units
  have hu1 := hu_of hr
  unfold m_is_pair
  exact (jss_cons (js_if (jt_w (jw_or (jt_not (jt_val (je_callB (callN_isi T.kf) T.f_isinstance (ja_cons (je_var (i := 0)) (ja_cons (je_tyB T.f_tuple) ja_nil))))) (jw_or1 (jt_cmp (opN_ne hu64) (je_callB callN_len T.f_len (ja_cons (je_var (i := 0)) ja_nil)) je_int (nomark _)))))
    (jss_one (js_ret je_bl))
    jss_nil)
    (jss_one (js_ret (je_and (je_call cx (Fn_is_among T) T.g_is_among (hr.mono (by decide)) (ja_cons (je_ix (ixN_seqv hu1) (je_var (i := 0)) je_int) (ja_cons (je_var (i := 1)) (ja_cons (je_var (i := 2)) ja_nil)))) (je_one (je_call cx (Fn_is_among T) T.g_is_among (hr.mono (by decide)) (ja_cons (je_ix (ixN_seqv hu1) (je_var (i := 0)) je_int) (ja_cons (je_var (i := 1)) (ja_cons (je_var (i := 2)) ja_nil)))))))))
theorem fn_is_pair {f : Addr} {fd : FuncData} (F : FunD K "is_pair" "is_pair" (defArgs s_is_pair) (defBody s_is_pair) (defScope s_is_pair) [] [] f fd) (T : Txt WW K mg) : Fn P WW K mg base 3 f 3 sp_is_pair :=
  ⟨⟨fd, ["thing", "least", "most"], rfl, ok_is_pair F T, F.bindsN fun _ _ _ _ _ _ us hl => match us, hl with | [_, _, _], _ => rfl⟩, F.kp⟩
theorem Fn_is_pair (T : Txt WW K mg) : Fn P WW K mg base 3 (He.ga K "is_pair") 3 sp_is_pair := by
  obtain ⟨fd, F⟩ := T.d_is_pair
  exact fn_is_pair F T
theorem sc_is_due : FnScope ["thing"] ["thing"] (defScope s_is_due) := ⟨rfl, rfl, rfl, by decide +kernel, rfl, by decide +kernel, by decide +kernel⟩
theorem ok_is_due {f : Addr} {fd : FuncData} (F : FunD K "is_due" "is_due" (defArgs s_is_due) (defBody s_is_due) (defScope s_is_due) [] [] f fd) (T : Txt WW K mg) : FnOk P WW K mg base (L2.CX P WW) 4 f fd ["thing"] (lSp K 1 sp_is_due) := by
  unfold sp_is_due
  refine fn_body (k := 3) (m := m_is_due) F sc_is_due (fun cdv A outer s H E w hr cx => ?_)
  have S := sc_is_due
  have hu64 := hr.units
  have hu1 := hu_of hr
  unfold m_is_due
  exact (jss_one (js_ret (je_and (je_call cx (Fn_is_pair T) T.g_is_pair (hr.mono (by decide)) (ja_cons (je_var (i := 0)) (ja_cons je_int (ja_cons (je_gint T.c_MOST_BOTTOM) ja_nil)))) (je_and (je_cmp opN_ge (je_ix (ixN_seqv hu1) (je_var (i := 0)) je_int) je_int (nomark _)) (je_one (je_cmp opN_le (je_op opN_mul je_int (je_ix (ixN_seqv hu1) (je_var (i := 0)) je_int)) (je_ix (ixN_seqv hu1) (je_var (i := 0)) je_int) (nomark _)))))))
theorem fn_is_due {f : Addr} {fd : FuncData} (F : FunD K "is_due" "is_due" (defArgs s_is_due) (defBody s_is_due) (defScope s_is_due) [] [] f fd) (T : Txt WW K mg) : Fn P WW K mg base 4 f 1 sp_is_due :=
  ⟨⟨fd, ["thing"], rfl, ok_is_due F T, F.bindsN fun _ _ _ _ _ _ us hl => match us, hl with | [_], _ => rfl⟩, F.kp⟩
theorem Fn_is_due (T : Txt WW K mg) : Fn P WW K mg base 4 (He.ga K "is_due") 1 sp_is_due := by
  obtain ⟨fd, F⟩ := T.d_is_due
  exact fn_is_due F T
theorem sc_is_plain : FnScope ["thing"] ["thing"] (defScope s_is_plain) := ⟨rfl, rfl, rfl, by decide +kernel, rfl, by decide +kernel, by decide +kernel⟩
theorem ok_is_plain {f : Addr} {fd : FuncData} (F : FunD K "is_plain" "is_plain" (defArgs s_is_plain) (defBody s_is_plain) (defScope s_is_plain) [] [] f fd) (T : Txt WW K mg) : FnOk P WW K mg base (L2.CX P WW) 5 f fd ["thing"] (lSp K 1 sp_is_plain) := by
  unfold sp_is_plain
  refine fn_body (k := 4) (m := m_is_plain) F sc_is_plain (fun cdv A outer s H E w hr cx => ?_)
  have S := sc_is_plain
  have hu64 := hr.units
  have hu1 := hu_of hr
  unfold m_is_plain
  exact (jss_cons (js_if (jt_w (jw_or (jt_not (jt_val (je_callB (callN_isi T.kf) T.f_isinstance (ja_cons (je_var (i := 0)) (ja_cons (je_tyB T.f_tuple) ja_nil))))) (jw_or (jt_not (jt_chain opN_le opN_le je_int (je_callB callN_len T.f_len (ja_cons (je_var (i := 0)) ja_nil)) je_int)) (jw_or1 (jt_not (jt_val (je_callB (callN_isi T.kf) T.f_isinstance (ja_cons (je_ix (ixN_seqv hu1) (je_var (i := 0)) je_int) (ja_cons (je_tyB T.f_str) ja_nil)))))))))
    (jss_one (js_ret je_bl))
    jss_nil)
    (jss_cons (js_if (jt_w (jw_or (jt_not (jt_val (je_call cx (Fn_is_pair T) T.g_is_pair (hr.mono (by decide)) (ja_cons (je_slice (je_var (i := 0)) (jo_some je_int) (jo_some je_int)) (ja_cons je_int (ja_cons (je_gint T.c_MOST) ja_nil)))))) (jw_or1 (jt_not (jt_val (je_call cx (Fn_is_due T) T.g_is_due (hr.mono (by decide)) (ja_cons (je_ix (ixN_seqv hu1) (je_var (i := 0)) je_int) ja_nil)))))))
    (jss_one (js_ret je_bl))
    jss_nil)
    (jss_cons (js_if (jt_cmp (opN_eq hu64) (je_ix (ixN_seqv hu1) (je_var (i := 0)) je_int) je_str (nomark _))
    (jss_one (js_ret (je_and (je_cmp (opN_eq hu64) (je_callB callN_len T.f_len (ja_cons (je_var (i := 0)) ja_nil)) je_int (nomark _)) (je_and (je_cmp opN_ge (je_ix (ixN_seqv hu1) (je_var (i := 0)) je_int) je_int (nomark _)) (je_one (je_cmp opN_ge (je_ix (ixN_seqv hu1) (je_var (i := 0)) je_int) je_int (nomark _)))))))
    jss_nil)
    (jss_cons (js_if (jt_cmp (opN_ne hu64) (je_callB callN_len T.f_len (ja_cons (je_var (i := 0)) ja_nil)) je_int (nomark _))
    (jss_one (js_ret je_bl))
    jss_nil)
    (jss_cons (js_if (jt_cmp (opN_eq hu64) (je_ix (ixN_seqv hu1) (je_var (i := 0)) je_int) je_str (nomark _))
    (jss_one (js_ret (je_call cx (Fn_is_pair T) T.g_is_pair (hr.mono (by decide)) (ja_cons (je_ix (ixN_seqv hu1) (je_var (i := 0)) je_int) (ja_cons je_int (ja_cons (je_gint T.c_MOST_RATE) ja_nil))))))
    jss_nil)
    (jss_cons (js_if (jt_w (jw_or (jt_cmp (opN_ne hu64) (je_ix (ixN_seqv hu1) (je_var (i := 0)) je_int) je_str (nomark _)) (jw_or1 (jt_not (jt_val (je_call cx (Fn_is_pair T) T.g_is_pair (hr.mono (by decide)) (ja_cons (je_ix (ixN_seqv hu1) (je_var (i := 0)) je_int) (ja_cons je_int (ja_cons (je_gint T.c_MOST) ja_nil)))))))))
    (jss_one (js_ret je_bl))
    jss_nil)
    (jss_one (js_ret (je_and (je_cmp opN_ge (je_op opN_add (je_ix (ixN_seqv hu1) (je_var (i := 0)) je_int) (je_ix (ixN_seqv hu1) (je_ix (ixN_seqv hu1) (je_var (i := 0)) je_int) je_int)) je_int (nomark _)) (je_one (je_cmp opN_ge (je_op opN_add (je_ix (ixN_seqv hu1) (je_var (i := 0)) je_int) (je_ix (ixN_seqv hu1) (je_ix (ixN_seqv hu1) (je_var (i := 0)) je_int) je_int)) je_int (nomark _))))))))))))
theorem fn_is_plain {f : Addr} {fd : FuncData} (F : FunD K "is_plain" "is_plain" (defArgs s_is_plain) (defBody s_is_plain) (defScope s_is_plain) [] [] f fd) (T : Txt WW K mg) : Fn P WW K mg base 5 f 1 sp_is_plain :=
  ⟨⟨fd, ["thing"], rfl, ok_is_plain F T, F.bindsN fun _ _ _ _ _ _ us hl => match us, hl with | [_], _ => rfl⟩, F.kp⟩
theorem Fn_is_plain (T : Txt WW K mg) : Fn P WW K mg base 5 (He.ga K "is_plain") 1 sp_is_plain := by
  obtain ⟨fd, F⟩ := T.d_is_plain
  exact fn_is_plain F T
theorem Fn_init_Product (T : Txt WW K mg) : Fn P WW K mg base 1 (He.ma K (He.ga K "Product") "__init__") 2 sp_Maker___init__ := by
  obtain ⟨fd, F⟩ := T.d_Product_init
  exact fn_Maker___init__ F T
theorem Fn_init_Stretch (T : Txt WW K mg) : Fn P WW K mg base 1 (He.ma K (He.ga K "Stretch") "__init__") 2 sp_Maker___init__ := by
  obtain ⟨fd, F⟩ := T.d_Stretch_init
  exact fn_Maker___init__ F T
theorem Fn_init_Sum (T : Txt WW K mg) : Fn P WW K mg base 1 (He.ma K (He.ga K "Sum") "__init__") 2 sp_Maker___init__ := by
  obtain ⟨fd, F⟩ := T.d_Sum_init
  exact fn_Maker___init__ F T
theorem sc_maker_of : FnScope ["plain"] ["plain"] (defScope s_maker_of) := ⟨rfl, rfl, rfl, by decide +kernel, rfl, by decide +kernel, by decide +kernel⟩
theorem ok_maker_of {f : Addr} {fd : FuncData} (F : FunD K "maker_of" "maker_of" (defArgs s_maker_of) (defBody s_maker_of) (defScope s_maker_of) [] [] f fd) (T : Txt WW K mg) : FnOk P WW K mg base (L2.CX P WW) 6 f fd ["plain"] (lSp K 1 sp_maker_of) := by
  unfold sp_maker_of
  refine fn_body (k := 5) (m := m_maker_of) F sc_maker_of (fun cdv A outer s H E w hr cx => ?_)
  have S := sc_maker_of
  have hu64 := hr.units
  have hu1 := hu_of hr
  unfold m_maker_of
  exact (jss_cons (js_if (jt_not (jt_val (je_call cx (Fn_is_plain T) T.g_is_plain (hr.mono (by decide)) (ja_cons (je_var (i := 0)) ja_nil))))
    (jss_one (js_raise cx T.x_BadMaker T.g_BadMaker))
    jss_nil)
    (jss_cons (js_if (jt_cmp (opN_eq hu64) (je_ix (ixN_seqv hu1) (je_var (i := 0)) je_int) je_str (nomark _))
    (jss_one (js_ret (je_make cx T.co_Product T.k_Product (Fn_init_Product T) T.g_Product (hr.mono (by decide)) (ja_cons (je_var (i := 0)) ja_nil))))
    jss_nil)
    (jss_cons (js_if (jt_cmp (opN_eq hu64) (je_ix (ixN_seqv hu1) (je_var (i := 0)) je_int) je_str (nomark _))
    (jss_one (js_ret (je_make cx T.co_Stretch T.k_Stretch (Fn_init_Stretch T) T.g_Stretch (hr.mono (by decide)) (ja_cons (je_var (i := 0)) ja_nil))))
    jss_nil)
    (jss_one (js_ret (je_make cx T.co_Sum T.k_Sum (Fn_init_Sum T) T.g_Sum (hr.mono (by decide)) (ja_cons (je_var (i := 0)) ja_nil)))))))
theorem fn_maker_of {f : Addr} {fd : FuncData} (F : FunD K "maker_of" "maker_of" (defArgs s_maker_of) (defBody s_maker_of) (defScope s_maker_of) [] [] f fd) (T : Txt WW K mg) : Fn P WW K mg base 6 f 1 sp_maker_of :=
  ⟨⟨fd, ["plain"], rfl, ok_maker_of F T, F.bindsN fun _ _ _ _ _ _ us hl => match us, hl with | [_], _ => rfl⟩, F.kp⟩
theorem Fn_maker_of (T : Txt WW K mg) : Fn P WW K mg base 6 (He.ga K "maker_of") 1 sp_maker_of := by
  obtain ⟨fd, F⟩ := T.d_maker_of
  exact fn_maker_of F T
theorem sc_made_or_none : FnScope ["plain", "found"] ["plain"] (defScope s_made_or_none) := ⟨rfl, rfl, rfl, by decide +kernel, rfl, by decide +kernel, by decide +kernel⟩
theorem ok_made_or_none {f : Addr} {fd : FuncData} (F : FunD K "made_or_none" "made_or_none" (defArgs s_made_or_none) (defBody s_made_or_none) (defScope s_made_or_none) [] [] f fd) (T : Txt WW K mg) : FnOk P WW K mg base (L2.CX P WW) 7 f fd ["plain"] (lSp K 1 sp_made_or_none) := by
  unfold sp_made_or_none
  refine fn_body (k := 6) (m := m_made_or_none) F sc_made_or_none (fun cdv A outer s H E w hr cx => ?_)
  have S := sc_made_or_none
  have hu64 := hr.units
  have hu1 := hu_of hr
  unfold m_made_or_none
  exact (jss_cons (js_try_only cx T.kx T.g_BadMaker rfl rfl (fun H w pn xe hx cx => (jss_one (js_set S.nd (je_call cx (Fn_maker_of T) T.g_maker_of (hr.mono (by decide)) (ja_cons (je_var (i := 0)) ja_nil)))))
    (fun H a pn => (jss_one (js_ret je_non))))
    (jss_one (js_ret (je_var (i := 1)))))
theorem fn_made_or_none {f : Addr} {fd : FuncData} (F : FunD K "made_or_none" "made_or_none" (defArgs s_made_or_none) (defBody s_made_or_none) (defScope s_made_or_none) [] [] f fd) (T : Txt WW K mg) : Fn P WW K mg base 7 f 1 sp_made_or_none :=
  ⟨⟨fd, ["plain"], rfl, ok_made_or_none F T, F.bindsN fun _ _ _ _ _ _ us hl => match us, hl with | [_], _ => rfl⟩, F.kp⟩
theorem Fn_made_or_none (T : Txt WW K mg) : Fn P WW K mg base 7 (He.ga K "made_or_none") 1 sp_made_or_none := by
  obtain ⟨fd, F⟩ := T.d_made_or_none
  exact fn_made_or_none F T
theorem sc_due_in : FnScope ["word", "ahead", "mark", "behind"] ["word"] (defScope s_due_in) := ⟨rfl, rfl, rfl, by decide +kernel, rfl, by decide +kernel, by decide +kernel⟩
theorem ok_due_in {f : Addr} {fd : FuncData} (F : FunD K "due_in" "due_in" (defArgs s_due_in) (defBody s_due_in) (defScope s_due_in) [] [] f fd) (T : Txt WW K mg) : FnOk P WW K mg base (L2.CX P WW) 2 f fd ["word"] (lSp K 1 sp_due_in) := by
  unfold sp_due_in
  refine fn_body (k := 1) (m := m_due_in) F sc_due_in (fun cdv A outer s H E w hr cx => ?_)
  have S := sc_due_in
  have hu64 := hr.units
  have hu1 := hu_of hr
  unfold m_due_in
  exact (jss_cons (js_asg (je_partition (je_var (i := 0)) je_str) (jg_tup cx (jgs_cons (jg_name S.nd) (jgs_cons (jg_name S.nd) (jgs_cons (jg_name S.nd) jgs_nil)))))
    (jss_cons (js_if (jt_w (jw_or (jt_cmp opN_isN (je_call cx (Fn_number_in T) T.g_number_in (hr.mono (by decide)) (ja_cons (je_var (i := 1)) ja_nil)) je_non (nomark _)) (jw_or1 (jt_cmp opN_isN (je_call cx (Fn_number_in T) T.g_number_in (hr.mono (by decide)) (ja_cons (je_var (i := 3)) ja_nil)) je_non (nomark _)))))
    (jss_one (js_ret je_non))
    jss_nil)
    (jss_one (js_ret (je_tup (ja_cons (je_call cx (Fn_number_in T) T.g_number_in (hr.mono (by decide)) (ja_cons (je_var (i := 1)) ja_nil)) (ja_cons (je_call cx (Fn_number_in T) T.g_number_in (hr.mono (by decide)) (ja_cons (je_var (i := 3)) ja_nil)) ja_nil)))))))
theorem fn_due_in {f : Addr} {fd : FuncData} (F : FunD K "due_in" "due_in" (defArgs s_due_in) (defBody s_due_in) (defScope s_due_in) [] [] f fd) (T : Txt WW K mg) : Fn P WW K mg base 2 f 1 sp_due_in :=
  ⟨⟨fd, ["word"], rfl, ok_due_in F T, F.bindsN fun _ _ _ _ _ _ us hl => match us, hl with | [_], _ => rfl⟩, F.kp⟩
theorem Fn_due_in (T : Txt WW K mg) : Fn P WW K mg base 2 (He.ga K "due_in") 1 sp_due_in := by
  obtain ⟨fd, F⟩ := T.d_due_in
  exact fn_due_in F T
theorem sc_plain_in : FnScope ["words", "numbers", "word", "due", "found"] ["words"] (defScope s_plain_in) := ⟨rfl, rfl, rfl, by decide +kernel, rfl, by decide +kernel, by decide +kernel⟩
theorem ok_plain_in {f : Addr} {fd : FuncData} (F : FunD K "plain_in" "plain_in" (defArgs s_plain_in) (defBody s_plain_in) (defScope s_plain_in) [] [] f fd) (T : Txt WW K mg) : FnOk P WW K mg base (L2.CX P WW) 3 f fd ["words"] (lSp K 1 sp_plain_in) := by
  unfold sp_plain_in
  refine fn_body (k := 2) (m := m_plain_in) F sc_plain_in (fun cdv A outer s H E w hr cx => ?_)
  have S := sc_plain_in
  have hu64 := hr.units
  have hu1 := hu_of hr
  unfold m_plain_in
  exact (jss_cons (js_if (jt_w (jw_or (jt_cmp opN_lt (je_callB callN_len T.f_len (ja_cons (je_var (i := 0)) ja_nil)) je_int (nomark _)) (jw_or1 (jt_cmp (opN_ne hu64) (je_tabget T.tb_SIZES T.g_SIZES (je_ix (ixN_seqv hu1) (je_var (i := 0)) je_int) je_int) (je_callB callN_len T.f_len (ja_cons (je_var (i := 0)) ja_nil)) (nomark _)))))
    (jss_one (js_ret je_non))
    jss_nil)
    (jss_cons (js_setLc (own := [("word", 2)]) cx S.nd (ji_seq (je_op opN_add (je_slice (je_var (i := 0)) (jo_some je_int) (jo_some je_int)) (je_slice (je_var (i := 0)) (jo_some je_int) jo_none))) (by rfl) (fun _ _ _ _ _ cx => (jgv_name S.nd (by decide))) (fun _ _ _ _ _ cx => jts_nil) (fun _ _ _ _ _ cx => (je_call cx (Fn_number_in T) T.g_number_in (hr.mono (by decide)) (ja_cons (je_var (i := 2)) ja_nil))))
    (jss_cons (js_set S.nd (je_call cx (Fn_due_in T) T.g_due_in (hr.mono (by decide)) (ja_cons (je_ix (ixN_seqv hu1) (je_var (i := 0)) je_int) ja_nil)))
    (jss_cons (js_if (jt_w (jw_or (jt_cmp (opN_in hu1) je_non (je_var (i := 1)) (by rfl)) (jw_or1 (jt_cmp opN_isN (je_var (i := 3)) je_non (nomark _)))))
    (jss_one (js_ret je_non))
    jss_nil)
    (jss_cons (js_set S.nd (je_tup (ja_cons (je_ix (ixN_seqv hu1) (je_var (i := 0)) je_int) (ja_cons (je_ix (ixN_seqv hu1) (je_var (i := 1)) je_int) (ja_cons (je_ix (ixN_seqv hu1) (je_var (i := 1)) je_int) (ja_cons (je_var (i := 3)) ja_nil))))))
    (jss_one (js_ret (je_if (jt_cmp (opN_eq hu64) (je_callB callN_len T.f_len (ja_cons (je_var (i := 0)) ja_nil)) je_int (nomark _)) (je_var (i := 4)) (je_op opN_add (je_var (i := 4)) (je_tup (ja_cons (je_tup (ja_cons (je_ix (ixN_seqv hu1) (je_var (i := 1)) je_int) (ja_cons (je_ix (ixN_seqv hu1) (je_var (i := 1)) je_int) ja_nil))) ja_nil)))))))))))
theorem fn_plain_in {f : Addr} {fd : FuncData} (F : FunD K "plain_in" "plain_in" (defArgs s_plain_in) (defBody s_plain_in) (defScope s_plain_in) [] [] f fd) (T : Txt WW K mg) : Fn P WW K mg base 3 f 1 sp_plain_in :=
  ⟨⟨fd, ["words"], rfl, ok_plain_in F T, F.bindsN fun _ _ _ _ _ _ us hl => match us, hl with | [_], _ => rfl⟩, F.kp⟩
theorem Fn_plain_in (T : Txt WW K mg) : Fn P WW K mg base 3 (He.ga K "plain_in") 1 sp_plain_in := by
  obtain ⟨fd, F⟩ := T.d_plain_in
  exact fn_plain_in F T
theorem sc_put_maker : FnScope ["market", "words", "plain", "maker"] ["market", "words"] (defScope s_put_maker) := ⟨rfl, rfl, rfl, by decide +kernel, rfl, by decide +kernel, by decide +kernel⟩
theorem ok_put_maker {f : Addr} {fd : FuncData} (F : FunD K "put_maker" "put_maker" (defArgs s_put_maker) (defBody s_put_maker) (defScope s_put_maker) [] [] f fd) (T : Txt WW K mg) : FnOk P WW K mg base (L2.CX P WW) 8 f fd ["market", "words"] (lSp K 2 sp_put_maker) := by
  unfold sp_put_maker
  refine fn_body (k := 7) (m := m_put_maker) F sc_put_maker (fun cdv A outer s H E w hr cx => ?_)
  have S := sc_put_maker
  have hu64 := hr.units
  have hu1 := hu_of hr
  unfold m_put_maker
  exact (jss_cons (js_set S.nd (je_call cx (Fn_plain_in T) T.g_plain_in (hr.mono (by decide)) (ja_cons (je_var (i := 1)) ja_nil)))
    (jss_cons (js_set S.nd (je_if (jt_cmp opN_isN (je_var (i := 2)) je_non (nomark _)) je_non (je_call cx (Fn_made_or_none T) T.g_made_or_none (hr.mono (by decide)) (ja_cons (je_var (i := 2)) ja_nil))))
    (jss_cons (js_if (jt_w (jw_or (jt_cmp opN_isN (je_var (i := 3)) je_non (nomark _)) (jw_or (jt_cmp (opN_eq hu64) (je_callB callN_len T.f_len (ja_cons (je_fld (je_var (i := 0))) ja_nil)) (je_gint T.c_MOST_MAKERS) (nomark _)) (jw_or1 (jt_cmp (opN_neX hu64) (je_fld (je_var (i := 0))) je_dic0 (nomark _))))))
    (jss_one (js_ret je_bl))
    jss_nil)
    (jss_cons (js_asg (je_var (i := 3)) (jg_ix hu1 (je_fld (je_var (i := 0))) (je_ix (ixN_seqv hu1) (je_var (i := 1)) je_int)))
    (jss_one (js_ret je_bl))))))
theorem fn_put_maker {f : Addr} {fd : FuncData} (F : FunD K "put_maker" "put_maker" (defArgs s_put_maker) (defBody s_put_maker) (defScope s_put_maker) [] [] f fd) (T : Txt WW K mg) : Fn P WW K mg base 8 f 2 sp_put_maker :=
  ⟨⟨fd, ["market", "words"], rfl, ok_put_maker F T, F.bindsN fun _ _ _ _ _ _ us hl => match us, hl with | [_, _], _ => rfl⟩, F.kp⟩
theorem Fn_put_maker (T : Txt WW K mg) : Fn P WW K mg base 8 (He.ga K "put_maker") 2 sp_put_maker := by
  obtain ⟨fd, F⟩ := T.d_put_maker
  exact fn_put_maker F T
theorem sc_is_put : FnScope ["market", "words"] ["market", "words"] (defScope s_is_put) := ⟨rfl, rfl, rfl, by decide +kernel, rfl, by decide +kernel, by decide +kernel⟩
theorem ok_is_put {f : Addr} {fd : FuncData} (F : FunD K "is_put" "is_put" (defArgs s_is_put) (defBody s_is_put) (defScope s_is_put) [] [] f fd) (T : Txt WW K mg) : FnOk P WW K mg base (L2.CX P WW) 9 f fd ["market", "words"] (lSp K 2 sp_is_put) := by
  unfold sp_is_put
  refine fn_body (k := 8) (m := m_is_put) F sc_is_put (fun cdv A outer s H E w hr cx => ?_)
  have S := sc_is_put
  have hu64 := hr.units
  have hu1 := hu_of hr
  unfold m_is_put
  exact (jss_cons (js_if (jt_w (jw_or (jt_cmp opN_lt (je_callB callN_len T.f_len (ja_cons (je_var (i := 1)) ja_nil)) je_int (nomark _)) (jw_or (jt_not (jt_val (je_call cx (Fn_is_name T) T.g_is_name (hr.mono (by decide)) (ja_cons (je_ix (ixN_seqv hu1) (je_var (i := 1)) je_int) ja_nil)))) (jw_or (jt_cmp (opN_in hu1) (je_ix (ixN_seqv hu1) (je_var (i := 1)) je_int) (je_fld (je_var (i := 0))) (by rfl)) (jw_or1 (jt_cmp (opN_in hu1) (je_ix (ixN_seqv hu1) (je_var (i := 1)) je_int) (je_fld (je_var (i := 0))) (by rfl)))))))
    (jss_one (js_ret je_bl))
    jss_nil)
    (jss_cons (js_if (jt_cmp (opN_eq hu64) (je_ix (ixN_seqv hu1) (je_var (i := 1)) je_int) je_str (nomark _))
    (jss_one (js_ret (je_call cx (Fn_put_maker T) T.g_put_maker (hr.mono (by decide)) (ja_cons (je_var (i := 0)) (ja_cons (je_var (i := 1)) ja_nil)))))
    jss_nil)
    (jss_one (js_ret (je_and (je_cmp (opN_eq hu64) (je_ix (ixN_seqv hu1) (je_var (i := 1)) je_int) je_str (nomark _)) (je_one (je_call cx (Fn_put_hand T) T.g_put_hand (hr.mono (by decide)) (ja_cons (je_var (i := 0)) (ja_cons (je_var (i := 1)) ja_nil)))))))))
theorem fn_is_put {f : Addr} {fd : FuncData} (F : FunD K "is_put" "is_put" (defArgs s_is_put) (defBody s_is_put) (defScope s_is_put) [] [] f fd) (T : Txt WW K mg) : Fn P WW K mg base 9 f 2 sp_is_put :=
  ⟨⟨fd, ["market", "words"], rfl, ok_is_put F T, F.bindsN fun _ _ _ _ _ _ us hl => match us, hl with | [_, _], _ => rfl⟩, F.kp⟩
theorem Fn_is_put (T : Txt WW K mg) : Fn P WW K mg base 9 (He.ga K "is_put") 2 sp_is_put := by
  obtain ⟨fd, F⟩ := T.d_is_put
  exact fn_is_put F T
theorem Fn_init_Market (T : Txt WW K mg) : Fn P WW K mg base 1 (He.ma K (He.ga K "Market") "__init__") 1 sp_Market___init__ := by
  obtain ⟨fd, F⟩ := T.d_Market_init
  exact fn_Market___init__ F T
theorem sc_read : FnScope ["text", "found", "number", "row"] ["text"] (defScope s_read) := ⟨rfl, rfl, rfl, by decide +kernel, rfl, by decide +kernel, by decide +kernel⟩
theorem ok_read {f : Addr} {fd : FuncData} (F : FunD K "read" "read" (defArgs s_read) (defBody s_read) (defScope s_read) [] [] f fd) (T : Txt WW K mg) : FnOk P WW K mg base (L2.CX P WW) 10 f fd ["text"] (lSp K 1 sp_read) := by
  unfold sp_read
  refine fn_body (k := 9) (m := m_read) F sc_read (fun cdv A outer s H E w hr cx => ?_)
  have S := sc_read
  have hu64 := hr.units
  have hu1 := hu_of hr
  unfold m_read
  exact (jss_cons (js_if (jt_not (jt_val (je_callB (callN_isi T.kf) T.f_isinstance (ja_cons (je_var (i := 0)) (ja_cons (je_tyB T.f_str) ja_nil)))))
    (jss_one (js_raiseX cx T.o_NoText (oi_NoText T) (hr.mono (by decide)) T.g_NoText je_int))
    jss_nil)
    (jss_cons (js_set S.nd (je_make0 cx T.co_Market T.k_Market (Fn_init_Market T) T.g_Market (hr.mono (by decide)) ))
    (jss_cons (js_forI cx (ji_enum T.f_enumerate (je_split (je_var (i := 0)) je_str)) (jg_tup cx (jgs_cons (jg_name S.nd) (jgs_cons (jg_name S.nd) jgs_nil)))
    (jss_one (js_if (jt_not (jt_val (je_call cx (Fn_is_put T) T.g_is_put (hr.mono (by decide)) (ja_cons (je_var (i := 1)) (ja_cons (je_split (je_var (i := 3)) je_str) ja_nil)))))
    (jss_one (js_raiseX cx T.o_NoText (oi_NoText T) (hr.mono (by decide)) T.g_NoText (je_op opN_add (je_var (i := 2)) je_int)))
    jss_nil)))
    (jss_one (js_ret (je_var (i := 1)))))))
theorem fn_read {f : Addr} {fd : FuncData} (F : FunD K "read" "read" (defArgs s_read) (defBody s_read) (defScope s_read) [] [] f fd) (T : Txt WW K mg) : Fn P WW K mg base 10 f 1 sp_read :=
  ⟨⟨fd, ["text"], rfl, ok_read F T, F.bindsN fun _ _ _ _ _ _ us hl => match us, hl with | [_], _ => rfl⟩, F.kp⟩
theorem Fn_read (T : Txt WW K mg) : Fn P WW K mg base 10 (He.ga K "read") 1 sp_read := by
  obtain ⟨fd, F⟩ := T.d_read
  exact fn_read F T
theorem mk_Market_text (T : Txt WW K mg) : MtK P WW K mg base "text" mt_Market_text 3 := by
  refine ⟨fun c n sp h => ?_⟩
  unfold mt_Market_text at h
  split at h
  · rename_i e; subst e; cases h
    obtain ⟨fd, F⟩ := T.d_Market_text
    exact ⟨_, T.m_Market_text, (fn_Market_text F T).mono (by decide)⟩
  cases h
theorem sc__law_said : FnScope ["_law_text", "_law_caught", "_law_found", "_law_e", "_law_word_here"] ["_law_text"] (defScope s__law_said) := ⟨rfl, rfl, rfl, by decide +kernel, rfl, by decide +kernel, by decide +kernel⟩
theorem ok__law_said {f : Addr} {fd : FuncData} (F : FunD K "_law_said" "_law_said" (defArgs s__law_said) (defBody s__law_said) (defScope s__law_said) [] [] f fd) (T : Txt WW K mg) : FnOk P WW K mg base (L2.CX P WW) 11 f fd ["_law_text"] (lSp K 1 sp__law_said) := by
  unfold sp__law_said
  refine fn_body (k := 10) (m := m__law_said) F sc__law_said (fun cdv A outer s H E w hr cx => ?_)
  have S := sc__law_said
  have hu64 := hr.units
  have hu1 := hu_of hr
  unfold m__law_said
  exact (jss_cons (js_set S.nd je_non)
    (jss_cons (js_set S.nd je_non)
    (jss_cons (js_try_keep (i := 3) (j := 1) cx T.kx T.g_MartError S.nd rfl rfl rfl (fun _ => rfl) (by decide) (fun H w pn xe hx cx => (jss_one (js_set S.nd (je_call cx (Fn_read T) T.g_read (hr.mono (by decide)) (ja_cons (je_var (i := 0)) ja_nil))))) rfl rfl rfl (Or.inl rfl) (fun _ _ => rfl))
    (jss_cons (js_if (jt_cmp opN_isN (je_var (i := 1)) je_non (nomark _))
    (jss_one (js_ret (je_tup (ja_cons je_str (ja_cons (je_methK0 cx (mk_Market_text T) (hr.mono (by decide)) (je_var (i := 2)) ) ja_nil)))))
    jss_nil)
    (jss_cons (js_set S.nd (je_call cx (Fn__law_word T) T.g__law_word (hr.mono (by decide)) (ja_cons (je_var (i := 1)) ja_nil)))
    (jss_cons (js_if (jt_w (jw_and (jt_cmp (opN_eq hu64) (je_var (i := 4)) je_str (nomark _)) (jw_and1 (jt_not (jt_val (je_callB (callN_isi T.kf) T.f_isinstance (ja_cons (je_xf T.xf_NoText (je_var (i := 1))) (ja_cons (je_tyB T.f_bool) ja_nil))))))))
    (jss_one (js_ret (je_tup (ja_cons (je_var (i := 4)) (ja_cons (je_xf T.xf_NoText (je_var (i := 1))) ja_nil)))))
    jss_nil)
    (jss_one (js_ret (je_tup (ja_cons (je_var (i := 4)) (ja_cons je_non ja_nil)))))))))))
theorem fn__law_said {f : Addr} {fd : FuncData} (F : FunD K "_law_said" "_law_said" (defArgs s__law_said) (defBody s__law_said) (defScope s__law_said) [] [] f fd) (T : Txt WW K mg) : Fn P WW K mg base 11 f 1 sp__law_said :=
  ⟨⟨fd, ["_law_text"], rfl, ok__law_said F T, F.bindsN fun _ _ _ _ _ _ us hl => match us, hl with | [_], _ => rfl⟩, F.kp⟩
theorem Fn__law_said (T : Txt WW K mg) : Fn P WW K mg base 11 (He.ga K "_law_said") 1 sp__law_said := by
  obtain ⟨fd, F⟩ := T.d__law_said
  exact fn__law_said F T
theorem sc__law_called_twice : FnScope ["_law_own", "_law_rows_here", "_law_state_here", "_law_many", "_law_names_here", "_law_name", "_law_maker", "_law_hand"] ["_law_own", "_law_rows_here", "_law_state_here"] (defScope s__law_called_twice) := ⟨rfl, rfl, rfl, by decide +kernel, rfl, by decide +kernel, by decide +kernel⟩
theorem ok__law_called_twice {f : Addr} {fd : FuncData} (F : FunD K "_law_called_twice" "_law_called_twice" (defArgs s__law_called_twice) (defBody s__law_called_twice) (defScope s__law_called_twice) [] [] f fd) (T : Txt WW K mg) : FnOk P WW K mg base (L2.CX P WW) 12 f fd ["_law_own", "_law_rows_here", "_law_state_here"] (lSp K 3 sp__law_called_twice) := by
  unfold sp__law_called_twice
  refine fn_body (k := 11) (m := m__law_called_twice) F sc__law_called_twice (fun cdv A outer s H E w hr cx => ?_)
  have S := sc__law_called_twice
  have hu64 := hr.units
  have hu1 := hu_of hr
  unfold m__law_called_twice
  exact (jss_cons (js_set S.nd (je_callB callN_len T.f_len (ja_cons (je_ix (ixN_seqv hu1) (je_var (i := 0)) je_str) ja_nil)))
    (jss_cons (js_set S.nd (je_callTy (callN_listD cx.calm) T.f_list (ja_cons (je_ix (ixN_seqv hu1) (je_var (i := 0)) je_str) ja_nil)))
    (jss_cons (js_set S.nd (je_ix (ixN_seqv hu1) (je_var (i := 4)) (je_op opN_mod (je_call cx (Fn__law_next T) T.g__law_next (hr.mono (by decide)) (ja_cons (je_var (i := 2)) ja_nil)) (je_var (i := 3)))))
    (jss_cons (js_set S.nd (je_op opN_add (je_op opN_add je_str (je_var (i := 5))) je_str))
    (jss_cons (js_if (jt_cmp (opN_ne hu64) (je_call cx (Fn__law_said T) T.g__law_said (hr.mono (by decide)) (ja_cons (je_join je_str (je_op opN_add (je_op opN_add (je_slice (je_var (i := 1)) jo_none (jo_some (je_var (i := 3)))) (je_lst (ja_cons (je_var (i := 6)) ja_nil))) (je_slice (je_var (i := 1)) (jo_some (je_var (i := 3))) jo_none))) ja_nil)) (je_tup (ja_cons je_str (ja_cons (je_op opN_add (je_var (i := 3)) je_int) ja_nil))) (nomark _))
    (jss_one (js_ret je_bl))
    jss_nil)
    (jss_cons (js_set S.nd (je_op opN_add (je_var (i := 4)) (je_callTy (callN_listD cx.calm) T.f_list (ja_cons (je_ix (ixN_seqv hu1) (je_var (i := 0)) je_str) ja_nil))))
    (jss_cons (js_set S.nd (je_op opN_add (je_op opN_add je_str (je_ix (ixN_seqv hu1) (je_var (i := 4)) (je_op opN_mod (je_call cx (Fn__law_next T) T.g__law_next (hr.mono (by decide)) (ja_cons (je_var (i := 2)) ja_nil)) (je_callB callN_len T.f_len (ja_cons (je_var (i := 4)) ja_nil))))) je_str))
    (jss_one (js_ret (je_cmp (opN_eq hu64) (je_call cx (Fn__law_said T) T.g__law_said (hr.mono (by decide)) (ja_cons (je_join je_str (je_op opN_add (je_var (i := 1)) (je_lst (ja_cons (je_var (i := 7)) ja_nil)))) ja_nil)) (je_tup (ja_cons je_str (ja_cons (je_op opN_add (je_callB callN_len T.f_len (ja_cons (je_var (i := 1)) ja_nil)) je_int) ja_nil))) (nomark _)))))))))))
theorem fn__law_called_twice {f : Addr} {fd : FuncData} (F : FunD K "_law_called_twice" "_law_called_twice" (defArgs s__law_called_twice) (defBody s__law_called_twice) (defScope s__law_called_twice) [] [] f fd) (T : Txt WW K mg) : Fn P WW K mg base 12 f 3 sp__law_called_twice :=
  ⟨⟨fd, ["_law_own", "_law_rows_here", "_law_state_here"], rfl, ok__law_called_twice F T, F.bindsN fun _ _ _ _ _ _ us hl => match us, hl with | [_, _, _], _ => rfl⟩, F.kp⟩
theorem Fn__law_called_twice (T : Txt WW K mg) : Fn P WW K mg base 12 (He.ga K "_law_called_twice") 3 sp__law_called_twice := by
  obtain ⟨fd, F⟩ := T.d__law_called_twice
  exact fn__law_called_twice F T
theorem sc__law_full : FnScope ["_law_own", "_law_rows_here", "_law_many", "_law_few", "_law_maker", "_law_hand", "_law_good"] ["_law_own", "_law_rows_here"] (defScope s__law_full) := ⟨rfl, rfl, rfl, by decide +kernel, rfl, by decide +kernel, by decide +kernel⟩
theorem ok__law_full {f : Addr} {fd : FuncData} (F : FunD K "_law_full" "_law_full" (defArgs s__law_full) (defBody s__law_full) (defScope s__law_full) [] [] f fd) (T : Txt WW K mg) : FnOk P WW K mg base (L2.CX P WW) 12 f fd ["_law_own", "_law_rows_here"] (lSp K 2 sp__law_full) := by
  unfold sp__law_full
  refine fn_body (k := 11) (m := m__law_full) F sc__law_full (fun cdv A outer s H E w hr cx => ?_)
  have S := sc__law_full
  have hu64 := hr.units
  have hu1 := hu_of hr
  unfold m__law_full
  exact (jss_cons (js_par cx S.nd (je_callB callN_len T.f_len (ja_cons (je_ix (ixN_seqv hu1) (je_var (i := 0)) je_str) ja_nil)) (je_callB callN_len T.f_len (ja_cons (je_ix (ixN_seqv hu1) (je_var (i := 0)) je_str) ja_nil)) (by decide))
    (jss_cons (js_asg (je_tup (ja_cons je_str (ja_cons je_str ja_nil))) (jg_tup cx (jgs_cons (jg_name S.nd) (jgs_cons (jg_name S.nd) jgs_nil))))
    (jss_cons (js_set S.nd (je_join je_str (je_op opN_add (je_op opN_add (je_slice (je_var (i := 1)) jo_none (jo_some (je_var (i := 2)))) (je_lst (ja_cons (je_var (i := 4)) ja_nil))) (je_slice (je_var (i := 1)) (jo_some (je_var (i := 2))) jo_none))))
    (jss_cons (js_if (jt_cmp (opN_ne hu64) (je_call cx (Fn__law_said T) T.g__law_said (hr.mono (by decide)) (ja_cons (je_var (i := 6)) ja_nil)) (je_ix (ixN_seqv hu1) (je_lst (ja_cons (je_tup (ja_cons je_str (ja_cons (je_var (i := 6)) ja_nil))) (ja_cons (je_tup (ja_cons je_str (ja_cons je_int ja_nil))) ja_nil))) (je_callTy callN_int T.f_int (ja_cons (je_cmp (opN_eq hu64) (je_var (i := 2)) je_int (nomark _)) ja_nil))) (nomark _))
    (jss_one (js_ret je_bl))
    jss_nil)
    (jss_cons (js_set S.nd (je_join je_str (je_op opN_add (je_var (i := 1)) (je_lst (ja_cons (je_var (i := 5)) ja_nil)))))
    (jss_cons (js_if (jt_cmp (opN_ne hu64) (je_call cx (Fn__law_said T) T.g__law_said (hr.mono (by decide)) (ja_cons (je_var (i := 6)) ja_nil)) (je_ix (ixN_seqv hu1) (je_lst (ja_cons (je_tup (ja_cons je_str (ja_cons (je_var (i := 6)) ja_nil))) (ja_cons (je_tup (ja_cons je_str (ja_cons (je_op opN_add (je_callB callN_len T.f_len (ja_cons (je_var (i := 1)) ja_nil)) je_int) ja_nil))) ja_nil))) (je_callTy callN_int T.f_int (ja_cons (je_cmp (opN_eq hu64) (je_var (i := 3)) je_int (nomark _)) ja_nil))) (nomark _))
    (jss_one (js_ret je_bl))
    jss_nil)
    (jss_cons (js_if (jt_cmp (opN_ne hu64) (je_call cx (Fn__law_said T) T.g__law_said (hr.mono (by decide)) (ja_cons (je_join je_str (je_op opN_add (je_lst (ja_cons (je_var (i := 5)) ja_nil)) (je_var (i := 1)))) ja_nil)) (je_tup (ja_cons je_str (ja_cons je_int ja_nil))) (nomark _))
    (jss_one (js_ret je_bl))
    jss_nil)
    (jss_one (js_ret (je_or (je_cmp (opN_eq hu64) (je_var (i := 3)) je_int (nomark _)) (je_one (je_cmp (opN_eq hu64) (je_call cx (Fn__law_said T) T.g__law_said (hr.mono (by decide)) (ja_cons (je_join je_str (je_op opN_add (je_var (i := 1)) (je_lst (ja_cons (je_var (i := 4)) ja_nil)))) ja_nil)) (je_tup (ja_cons je_str (ja_cons (je_op opN_add (je_callB callN_len T.f_len (ja_cons (je_var (i := 1)) ja_nil)) je_int) ja_nil))) (nomark _)))))))))))))
theorem fn__law_full {f : Addr} {fd : FuncData} (F : FunD K "_law_full" "_law_full" (defArgs s__law_full) (defBody s__law_full) (defScope s__law_full) [] [] f fd) (T : Txt WW K mg) : Fn P WW K mg base 12 f 2 sp__law_full :=
  ⟨⟨fd, ["_law_own", "_law_rows_here"], rfl, ok__law_full F T, F.bindsN fun _ _ _ _ _ _ us hl => match us, hl with | [_, _], _ => rfl⟩, F.kp⟩
theorem Fn__law_full (T : Txt WW K mg) : Fn P WW K mg base 12 (He.ga K "_law_full") 2 sp__law_full := by
  obtain ⟨fd, F⟩ := T.d__law_full
  exact fn__law_full F T
theorem sc__law_amount : FnScope ["_law_state_here", "_law_number", "_law_more", "_law_wide"] ["_law_state_here"] (defScope s__law_amount) := ⟨rfl, rfl, rfl, by decide +kernel, rfl, by decide +kernel, by decide +kernel⟩
theorem ok__law_amount {f : Addr} {fd : FuncData} (F : FunD K "_law_amount" "_law_amount" (defArgs s__law_amount) (defBody s__law_amount) (defScope s__law_amount) [] [] f fd) (T : Txt WW K mg) : FnOk P WW K mg base (L2.CX P WW) 3 f fd ["_law_state_here"] (lSp K 1 sp__law_amount) := by
  unfold sp__law_amount
  refine fn_body (k := 2) (m := m__law_amount) F sc__law_amount (fun cdv A outer s H E w hr cx => ?_)
  have S := sc__law_amount
  have hu64 := hr.units
  have hu1 := hu_of hr
  unfold m__law_amount
  exact (jss_cons (js_set S.nd (je_call cx (Fn__law_next T) T.g__law_next (hr.mono (by decide)) (ja_cons (je_var (i := 0)) ja_nil)))
    (jss_cons (js_set S.nd (je_op opN_div (je_var (i := 1)) je_int))
    (jss_cons (js_set S.nd (je_op opN_add (je_op opN_mul (je_var (i := 1)) je_int) (je_call cx (Fn__law_next T) T.g__law_next (hr.mono (by decide)) (ja_cons (je_var (i := 0)) ja_nil))))
    (jss_one (js_ret (je_ix (ixN_seqv hu1) (je_lst (ja_cons (je_op opN_mod (je_var (i := 2)) je_int) (ja_cons (je_op opN_add je_int (je_op opN_mod (je_var (i := 2)) je_int)) (ja_cons (je_op opN_sub (je_op opN_pow je_int je_int) (je_op opN_mod (je_var (i := 2)) je_int)) (ja_cons (je_op opN_mod (je_var (i := 3)) (je_op opN_add (je_op opN_pow je_int je_int) je_int)) ja_nil))))) (je_op opN_mod (je_var (i := 1)) je_int)))))))
theorem fn__law_amount {f : Addr} {fd : FuncData} (F : FunD K "_law_amount" "_law_amount" (defArgs s__law_amount) (defBody s__law_amount) (defScope s__law_amount) [] [] f fd) (T : Txt WW K mg) : Fn P WW K mg base 3 f 1 sp__law_amount :=
  ⟨⟨fd, ["_law_state_here"], rfl, ok__law_amount F T, F.bindsN fun _ _ _ _ _ _ us hl => match us, hl with | [_], _ => rfl⟩, F.kp⟩
theorem Fn__law_amount (T : Txt WW K mg) : Fn P WW K mg base 3 (He.ga K "_law_amount") 1 sp__law_amount := by
  obtain ⟨fd, F⟩ := T.d__law_amount
  exact fn__law_amount F T
theorem sc__law_names : FnScope ["_law_state_here", "_law_number", "_law_step", "_law_letters", "_law_border", "_law_at", "_law_tail", "_law_found", "_law_k", "_law_sign", "_law_size"] ["_law_state_here"] (defScope s__law_names) := ⟨rfl, rfl, rfl, by decide +kernel, rfl, by decide +kernel, by decide +kernel⟩
theorem ok__law_names {f : Addr} {fd : FuncData} (F : FunD K "_law_names" "_law_names" (defArgs s__law_names) (defBody s__law_names) (defScope s__law_names) [] [] f fd) (T : Txt WW K mg) : FnOk P WW K mg base (L2.CX P WW) 3 f fd ["_law_state_here"] (lSp K 1 sp__law_names) := by
  unfold sp__law_names
  refine fn_body (k := 2) (m := m__law_names) F sc__law_names (fun cdv A outer s H E w hr cx => ?_)
  have S := sc__law_names
  have hu64 := hr.units
  have hu1 := hu_of hr
  unfold m__law_names
  exact (jss_cons (js_set S.nd (je_call cx (Fn__law_next T) T.g__law_next (hr.mono (by decide)) (ja_cons (je_var (i := 0)) ja_nil)))
    (jss_cons (js_set S.nd (je_ix (ixN_seqv hu1) (je_lst (ja_cons je_int (ja_cons je_int (ja_cons je_int ja_nil)))) (je_op opN_mod (je_var (i := 1)) je_int)))
    (jss_cons (js_set S.nd je_str)
    (jss_cons (js_set S.nd (je_slice je_str jo_none (jo_some (je_op opN_mod (je_var (i := 1)) je_int))))
    (jss_cons (js_set S.nd (je_op opN_mod (je_op opN_div (je_var (i := 1)) je_int) (je_op opN_add (je_callB callN_len T.f_len (ja_cons (je_var (i := 4)) ja_nil)) je_int)))
    (jss_cons (js_set S.nd (je_slice (je_var (i := 4)) (jo_some (je_var (i := 5))) jo_none))
    (jss_cons (js_set S.nd (je_lst ja_nil))
    (jss_cons (js_forR1 cx T.f_range je_int (jg_name S.nd)
    (jss_cons (js_set S.nd (je_ix (ixN_seqv hu1) (je_var (i := 3)) (je_op opN_mod (je_op opN_add (je_op opN_div (je_var (i := 1)) je_int) (je_op opN_mul (je_var (i := 2)) (je_var (i := 8)))) je_int)))
    (jss_cons (js_set S.nd (je_ix (ixN_seqv hu1) (je_lst (ja_cons (je_callB callN_len T.f_len (ja_cons (je_var (i := 6)) ja_nil)) (ja_cons (je_op opN_mod (je_var (i := 8)) (je_op opN_add (je_callB callN_len T.f_len (ja_cons (je_var (i := 6)) ja_nil)) je_int)) ja_nil))) (je_op opN_mod (je_op opN_div (je_var (i := 1)) je_int) je_int)))
    (jss_one (js_expr (je_append (je_var (i := 7)) (ja_cons (je_op opN_add (je_op opN_add (je_slice (je_var (i := 4)) jo_none (jo_some (je_var (i := 5)))) (je_var (i := 9))) (je_slice (je_var (i := 6)) jo_none (jo_some (je_var (i := 10))))) ja_nil)))))))
    (jss_one (js_ret (je_var (i := 7))))))))))))
theorem fn__law_names {f : Addr} {fd : FuncData} (F : FunD K "_law_names" "_law_names" (defArgs s__law_names) (defBody s__law_names) (defScope s__law_names) [] [] f fd) (T : Txt WW K mg) : Fn P WW K mg base 3 f 1 sp__law_names :=
  ⟨⟨fd, ["_law_state_here"], rfl, ok__law_names F T, F.bindsN fun _ _ _ _ _ _ us hl => match us, hl with | [_], _ => rfl⟩, F.kp⟩
theorem Fn__law_names (T : Txt WW K mg) : Fn P WW K mg base 3 (He.ga K "_law_names") 1 sp__law_names := by
  obtain ⟨fd, F⟩ := T.d__law_names
  exact fn__law_names F T
theorem sc__law_due : FnScope ["_law_state_here", "_law_number", "_law_bottom", "_law_some"] ["_law_state_here"] (defScope s__law_due) := ⟨rfl, rfl, rfl, by decide +kernel, rfl, by decide +kernel, by decide +kernel⟩
theorem ok__law_due {f : Addr} {fd : FuncData} (F : FunD K "_law_due" "_law_due" (defArgs s__law_due) (defBody s__law_due) (defScope s__law_due) [] [] f fd) (T : Txt WW K mg) : FnOk P WW K mg base (L2.CX P WW) 3 f fd ["_law_state_here"] (lSp K 1 sp__law_due) := by
  unfold sp__law_due
  refine fn_body (k := 2) (m := m__law_due) F sc__law_due (fun cdv A outer s H E w hr cx => ?_)
  have S := sc__law_due
  have hu64 := hr.units
  have hu1 := hu_of hr
  unfold m__law_due
  exact (jss_cons (js_set S.nd (je_call cx (Fn__law_next T) T.g__law_next (hr.mono (by decide)) (ja_cons (je_var (i := 0)) ja_nil)))
    (jss_cons (js_set S.nd (je_op opN_add je_int (je_op opN_mod (je_op opN_div (je_var (i := 1)) je_int) je_int)))
    (jss_cons (js_set S.nd (je_lst (ja_cons (je_tup (ja_cons je_int (ja_cons je_int ja_nil))) (ja_cons (je_tup (ja_cons je_int (ja_cons je_int ja_nil))) (ja_cons (je_tup (ja_cons je_int (ja_cons je_int ja_nil))) (ja_cons (je_tup (ja_cons je_int (ja_cons (je_var (i := 2)) ja_nil))) (ja_cons (je_tup (ja_cons (je_op opN_mod (je_op opN_div (je_var (i := 1)) je_int) (je_op opN_add (je_op opN_div (je_var (i := 2)) je_int) je_int)) (ja_cons (je_var (i := 2)) ja_nil))) ja_nil)))))))
    (jss_one (js_ret (je_ix (ixN_seqv hu1) (je_var (i := 3)) (je_op opN_mod (je_var (i := 1)) je_int)))))))
theorem fn__law_due {f : Addr} {fd : FuncData} (F : FunD K "_law_due" "_law_due" (defArgs s__law_due) (defBody s__law_due) (defScope s__law_due) [] [] f fd) (T : Txt WW K mg) : Fn P WW K mg base 3 f 1 sp__law_due :=
  ⟨⟨fd, ["_law_state_here"], rfl, ok__law_due F T, F.bindsN fun _ _ _ _ _ _ us hl => match us, hl with | [_], _ => rfl⟩, F.kp⟩
theorem Fn__law_due (T : Txt WW K mg) : Fn P WW K mg base 3 (He.ga K "_law_due") 1 sp__law_due := by
  obtain ⟨fd, F⟩ := T.d__law_due
  exact fn__law_due F T
theorem sc__law_plain : FnScope ["_law_state_here", "_law_number", "_law_sort", "_law_salt", "_law_cloth", "_law_due_here", "_law_more", "_law_less", "_law_rate"] ["_law_state_here"] (defScope s__law_plain) := ⟨rfl, rfl, rfl, by decide +kernel, rfl, by decide +kernel, by decide +kernel⟩
theorem ok__law_plain {f : Addr} {fd : FuncData} (F : FunD K "_law_plain" "_law_plain" (defArgs s__law_plain) (defBody s__law_plain) (defScope s__law_plain) [] [] f fd) (T : Txt WW K mg) : FnOk P WW K mg base (L2.CX P WW) 4 f fd ["_law_state_here"] (lSp K 1 sp__law_plain) := by
  unfold sp__law_plain
  refine fn_body (k := 3) (m := m__law_plain) F sc__law_plain (fun cdv A outer s H E w hr cx => ?_)
  have S := sc__law_plain
  have hu64 := hr.units
  have hu1 := hu_of hr
  unfold m__law_plain
  exact (jss_cons (js_set S.nd (je_call cx (Fn__law_next T) T.g__law_next (hr.mono (by decide)) (ja_cons (je_var (i := 0)) ja_nil)))
    (jss_cons (js_set S.nd (je_ix (ixN_seqv hu1) (je_lst (ja_cons je_str (ja_cons je_str (ja_cons je_str ja_nil)))) (je_op opN_mod (je_var (i := 1)) je_int)))
    (jss_cons (js_par cx S.nd (je_call cx (Fn__law_amount T) T.g__law_amount (hr.mono (by decide)) (ja_cons (je_var (i := 0)) ja_nil)) (je_call cx (Fn__law_amount T) T.g__law_amount (hr.mono (by decide)) (ja_cons (je_var (i := 0)) ja_nil)) (by decide))
    (jss_cons (js_set S.nd (je_call cx (Fn__law_due T) T.g__law_due (hr.mono (by decide)) (ja_cons (je_var (i := 0)) ja_nil)))
    (jss_cons (js_if (jt_cmp (opN_eq hu64) (je_var (i := 2)) je_str (nomark _))
    (jss_one (js_ret (je_tup (ja_cons (je_var (i := 2)) (ja_cons (je_callB (callN_max2 cx.calm) T.f_max (ja_cons je_int (ja_cons (je_var (i := 3)) ja_nil))) (ja_cons (je_callB (callN_max2 cx.calm) T.f_max (ja_cons je_int (ja_cons (je_var (i := 4)) ja_nil))) (ja_cons (je_var (i := 5)) ja_nil)))))))
    jss_nil)
    (jss_cons (js_par cx S.nd (je_call cx (Fn__law_amount T) T.g__law_amount (hr.mono (by decide)) (ja_cons (je_var (i := 0)) ja_nil)) (je_call cx (Fn__law_amount T) T.g__law_amount (hr.mono (by decide)) (ja_cons (je_var (i := 0)) ja_nil)) (by decide))
    (jss_cons (js_if (jt_cmp (opN_eq hu64) (je_var (i := 2)) je_str (nomark _))
    (jss_one (js_ret (je_tup (ja_cons (je_var (i := 2)) (ja_cons (je_var (i := 3)) (ja_cons (je_var (i := 4)) (ja_cons (je_var (i := 5)) (ja_cons (je_tup (ja_cons (je_callB (callN_max2 cx.calm) T.f_max (ja_cons (je_var (i := 6)) (ja_cons (je_callTy callN_int T.f_int (ja_cons (je_cmp (opN_eq hu64) (je_var (i := 3)) je_int (nomark _)) ja_nil)) ja_nil))) (ja_cons (je_callB (callN_max2 cx.calm) T.f_max (ja_cons (je_var (i := 7)) (ja_cons (je_callTy callN_int T.f_int (ja_cons (je_cmp (opN_eq hu64) (je_var (i := 4)) je_int (nomark _)) ja_nil)) ja_nil))) ja_nil))) ja_nil))))))))
    jss_nil)
    (jss_cons (js_set S.nd (je_ix (ixN_seqv hu1) (je_lst (ja_cons (je_tup (ja_cons je_int (ja_cons je_int ja_nil))) (ja_cons (je_tup (ja_cons (je_op opN_add je_int (je_op opN_mod (je_var (i := 6)) je_int)) (ja_cons (je_op opN_add je_int (je_op opN_mod (je_var (i := 7)) je_int)) ja_nil))) (ja_cons (je_tup (ja_cons (je_op opN_add je_int (je_op opN_mod (je_var (i := 6)) je_int)) (ja_cons (je_op opN_add je_int (je_op opN_mod (je_var (i := 7)) je_int)) ja_nil))) ja_nil)))) (je_op opN_mod (je_op opN_div (je_var (i := 1)) je_int) je_int)))
    (jss_one (js_ret (je_tup (ja_cons (je_var (i := 2)) (ja_cons (je_var (i := 3)) (ja_cons (je_var (i := 4)) (ja_cons (je_var (i := 5)) (ja_cons (je_var (i := 8)) ja_nil))))))))))))))))
theorem fn__law_plain {f : Addr} {fd : FuncData} (F : FunD K "_law_plain" "_law_plain" (defArgs s__law_plain) (defBody s__law_plain) (defScope s__law_plain) [] [] f fd) (T : Txt WW K mg) : Fn P WW K mg base 4 f 1 sp__law_plain :=
  ⟨⟨fd, ["_law_state_here"], rfl, ok__law_plain F T, F.bindsN fun _ _ _ _ _ _ us hl => match us, hl with | [_], _ => rfl⟩, F.kp⟩
theorem Fn__law_plain (T : Txt WW K mg) : Fn P WW K mg base 4 (He.ga K "_law_plain") 1 sp__law_plain := by
  obtain ⟨fd, F⟩ := T.d__law_plain
  exact fn__law_plain F T
theorem sc__law_market : FnScope ["_law_state_here", "_law_names_here", "_law_number", "_law_own", "_law_k"] ["_law_state_here"] (defScope s__law_market) := ⟨rfl, rfl, rfl, by decide +kernel, rfl, by decide +kernel, by decide +kernel⟩
theorem ok__law_market {f : Addr} {fd : FuncData} (F : FunD K "_law_market" "_law_market" (defArgs s__law_market) (defBody s__law_market) (defScope s__law_market) [] [] f fd) (T : Txt WW K mg) : FnOk P WW K mg base (L2.CX P WW) 5 f fd ["_law_state_here"] (lSp K 1 sp__law_market) := by
  unfold sp__law_market
  refine fn_body (k := 4) (m := m__law_market) F sc__law_market (fun cdv A outer s H E w hr cx => ?_)
  have S := sc__law_market
  have hu64 := hr.units
  have hu1 := hu_of hr
  unfold m__law_market
  exact (jss_cons (js_set S.nd (je_call cx (Fn__law_names T) T.g__law_names (hr.mono (by decide)) (ja_cons (je_var (i := 0)) ja_nil)))
    (jss_cons (js_set S.nd (je_call cx (Fn__law_next T) T.g__law_next (hr.mono (by decide)) (ja_cons (je_var (i := 0)) ja_nil)))
    (jss_cons (js_set S.nd (je_disp (jps_cons je_dic0 (jps_cons je_dic0 jps_nil))))
    (jss_cons (js_forR1 cx T.f_range (je_op opN_add je_int (je_op opN_mod (je_var (i := 2)) je_int)) (jg_name S.nd)
    (jss_one (js_asg (je_call cx (Fn__law_plain T) T.g__law_plain (hr.mono (by decide)) (ja_cons (je_var (i := 0)) ja_nil)) (jg_ix hu1 (je_ix (ixN_seqv hu1) (je_var (i := 3)) je_str) (je_ix (ixN_seqv hu1) (je_var (i := 1)) (je_var (i := 4)))))))
    (jss_cons (js_forR1 cx T.f_range (je_op opN_mod (je_op opN_div (je_var (i := 2)) je_int) je_int) (jg_name S.nd)
    (jss_one (js_asg (je_tup (ja_cons (je_call cx (Fn__law_amount T) T.g__law_amount (hr.mono (by decide)) (ja_cons (je_var (i := 0)) ja_nil)) (ja_cons (je_call cx (Fn__law_amount T) T.g__law_amount (hr.mono (by decide)) (ja_cons (je_var (i := 0)) ja_nil)) ja_nil))) (jg_ix hu1 (je_ix (ixN_seqv hu1) (je_var (i := 3)) je_str) (je_ix (ixN_seqv hu1) (je_var (i := 1)) (je_op opN_add je_int (je_var (i := 4))))))))
    (jss_one (js_ret (je_var (i := 3)))))))))
theorem fn__law_market {f : Addr} {fd : FuncData} (F : FunD K "_law_market" "_law_market" (defArgs s__law_market) (defBody s__law_market) (defScope s__law_market) [] [] f fd) (T : Txt WW K mg) : Fn P WW K mg base 5 f 1 sp__law_market :=
  ⟨⟨fd, ["_law_state_here"], rfl, ok__law_market F T, F.bindsN fun _ _ _ _ _ _ us hl => match us, hl with | [_], _ => rfl⟩, F.kp⟩
theorem Fn__law_market (T : Txt WW K mg) : Fn P WW K mg base 5 (He.ga K "_law_market") 1 sp__law_market := by
  obtain ⟨fd, F⟩ := T.d__law_market
  exact fn__law_market F T
theorem sc__law_maker_row : FnScope ["_law_name", "_law_plain_here", "_law_words", "_law_pair"] ["_law_name", "_law_plain_here"] (defScope s__law_maker_row) := ⟨rfl, rfl, rfl, by decide +kernel, rfl, by decide +kernel, by decide +kernel⟩
theorem ok__law_maker_row {f : Addr} {fd : FuncData} (F : FunD K "_law_maker_row" "_law_maker_row" (defArgs s__law_maker_row) (defBody s__law_maker_row) (defScope s__law_maker_row) [] [] f fd) (T : Txt WW K mg) : FnOk P WW K mg base (L2.CX P WW) 1 f fd ["_law_name", "_law_plain_here"] (lSp K 2 sp__law_maker_row) := by
  unfold sp__law_maker_row
  refine fn_body (k := 0) (m := m__law_maker_row) F sc__law_maker_row (fun cdv A outer s H E w hr cx => ?_)
  have S := sc__law_maker_row
  have hu64 := hr.units
  have hu1 := hu_of hr
  unfold m__law_maker_row
  exact (jss_cons (js_set S.nd (je_lst (ja_cons je_str (ja_cons (je_var (i := 0)) (ja_cons (je_ix (ixN_seqv hu1) (je_var (i := 1)) je_int) (ja_cons (je_callTy callN_str T.f_str (ja_cons (je_ix (ixN_seqv hu1) (je_var (i := 1)) je_int) ja_nil)) (ja_cons (je_callTy callN_str T.f_str (ja_cons (je_ix (ixN_seqv hu1) (je_var (i := 1)) je_int) ja_nil)) ja_nil)))))))
    (jss_cons (js_expr (je_append (je_var (i := 2)) (ja_cons (je_op opN_add (je_op opN_add (je_callTy callN_str T.f_str (ja_cons (je_ix (ixN_seqv hu1) (je_ix (ixN_seqv hu1) (je_var (i := 1)) je_int) je_int) ja_nil)) je_str) (je_callTy callN_str T.f_str (ja_cons (je_ix (ixN_seqv hu1) (je_ix (ixN_seqv hu1) (je_var (i := 1)) je_int) je_int) ja_nil))) ja_nil)))
    (jss_cons (js_for cx (je_slice (je_var (i := 1)) (jo_some je_int) jo_none) (jg_name S.nd)
    (jss_one (js_set S.nd (je_op opN_add (je_var (i := 2)) (je_lst (ja_cons (je_callTy callN_str T.f_str (ja_cons (je_ix (ixN_seqv hu1) (je_var (i := 3)) je_int) ja_nil)) (ja_cons (je_callTy callN_str T.f_str (ja_cons (je_ix (ixN_seqv hu1) (je_var (i := 3)) je_int) ja_nil)) ja_nil)))))))
    (jss_one (js_ret (je_join je_str (je_var (i := 2))))))))
theorem fn__law_maker_row {f : Addr} {fd : FuncData} (F : FunD K "_law_maker_row" "_law_maker_row" (defArgs s__law_maker_row) (defBody s__law_maker_row) (defScope s__law_maker_row) [] [] f fd) (T : Txt WW K mg) : Fn P WW K mg base 1 f 2 sp__law_maker_row :=
  ⟨⟨fd, ["_law_name", "_law_plain_here"], rfl, ok__law_maker_row F T, F.bindsN fun _ _ _ _ _ _ us hl => match us, hl with | [_, _], _ => rfl⟩, F.kp⟩
theorem Fn__law_maker_row (T : Txt WW K mg) : Fn P WW K mg base 1 (He.ga K "_law_maker_row") 2 sp__law_maker_row := by
  obtain ⟨fd, F⟩ := T.d__law_maker_row
  exact fn__law_maker_row F T
theorem sc__law_rows : FnScope ["_law_own", "_law_found", "_law_name", "_law_plain_here", "_law_purse"] ["_law_own"] (defScope s__law_rows) := ⟨rfl, rfl, rfl, by decide +kernel, rfl, by decide +kernel, by decide +kernel⟩
theorem ok__law_rows {f : Addr} {fd : FuncData} (F : FunD K "_law_rows" "_law_rows" (defArgs s__law_rows) (defBody s__law_rows) (defScope s__law_rows) [] [] f fd) (T : Txt WW K mg) : FnOk P WW K mg base (L2.CX P WW) 2 f fd ["_law_own"] (lSp K 1 sp__law_rows) := by
  unfold sp__law_rows
  refine fn_body (k := 1) (m := m__law_rows) F sc__law_rows (fun cdv A outer s H E w hr cx => ?_)
  have S := sc__law_rows
  have hu64 := hr.units
  have hu1 := hu_of hr
  unfold m__law_rows
  exact (jss_cons (js_set S.nd (je_lst ja_nil))
    (jss_cons (js_lock (js_forI cx (ji_items (je_ix (ixN_seqv hu1) (je_var (i := 0)) je_str)) (jg_tup cx (jgs_cons (jg_name S.nd) (jgs_cons (jg_name S.nd) jgs_nil)))
    (jss_one (js_expr (je_append (je_var (i := 1)) (ja_cons (je_call cx (Fn__law_maker_row T) T.g__law_maker_row (hr.mono (by decide)) (ja_cons (je_var (i := 2)) (ja_cons (je_var (i := 3)) ja_nil))) ja_nil))))))
    (jss_cons (js_lock (js_forI cx (ji_items (je_ix (ixN_seqv hu1) (je_var (i := 0)) je_str)) (jg_tup cx (jgs_cons (jg_name S.nd) (jgs_cons (jg_name S.nd) jgs_nil)))
    (jss_one (js_expr (je_append (je_var (i := 1)) (ja_cons (je_join je_str (je_lst (ja_cons je_str (ja_cons (je_var (i := 2)) (ja_cons (je_callTy callN_str T.f_str (ja_cons (je_ix (ixN_seqv hu1) (je_var (i := 4)) je_int) ja_nil)) (ja_cons (je_callTy callN_str T.f_str (ja_cons (je_ix (ixN_seqv hu1) (je_var (i := 4)) je_int) ja_nil)) ja_nil)))))) ja_nil))))))
    (jss_one (js_ret (je_var (i := 1)))))))
theorem fn__law_rows {f : Addr} {fd : FuncData} (F : FunD K "_law_rows" "_law_rows" (defArgs s__law_rows) (defBody s__law_rows) (defScope s__law_rows) [] [] f fd) (T : Txt WW K mg) : Fn P WW K mg base 2 f 1 sp__law_rows :=
  ⟨⟨fd, ["_law_own"], rfl, ok__law_rows F T, F.bindsN fun _ _ _ _ _ _ us hl => match us, hl with | [_], _ => rfl⟩, F.kp⟩
theorem Fn__law_rows (T : Txt WW K mg) : Fn P WW K mg base 2 (He.ga K "_law_rows") 1 sp__law_rows := by
  obtain ⟨fd, F⟩ := T.d__law_rows
  exact fn__law_rows F T
theorem sc__law_state : FnScope ["_law_cells"] ["_law_cells"] (defScope s__law_state) := ⟨rfl, rfl, rfl, by decide +kernel, rfl, by decide +kernel, by decide +kernel⟩
theorem ok__law_state {f : Addr} {fd : FuncData} (F : FunD K "_law_state" "_law_state" (defArgs s__law_state) (defBody s__law_state) (defScope s__law_state) [] [] f fd) (T : Txt WW K mg) : FnOk P WW K mg base (L2.CX P WW) 1 f fd ["_law_cells"] (lSp K 1 sp__law_state) := by
  unfold sp__law_state
  refine fn_body (k := 0) (m := m__law_state) F sc__law_state (fun cdv A outer s H E w hr cx => ?_)
  have S := sc__law_state
  have hu64 := hr.units
  have hu1 := hu_of hr
  unfold m__law_state
  exact (jss_one (js_ret (je_disp (jps_cons (je_callTy (callN_listD cx.calm) T.f_list (ja_cons (je_var (i := 0)) ja_nil)) (jps_cons (je_callTy (callN_listD cx.calm) T.f_list (ja_cons (je_var (i := 0)) ja_nil)) (jps_cons je_int jps_nil))))))
theorem fn__law_state {f : Addr} {fd : FuncData} (F : FunD K "_law_state" "_law_state" (defArgs s__law_state) (defBody s__law_state) (defScope s__law_state) [] [] f fd) (T : Txt WW K mg) : Fn P WW K mg base 1 f 1 sp__law_state :=
  ⟨⟨fd, ["_law_cells"], rfl, ok__law_state F T, F.bindsN fun _ _ _ _ _ _ us hl => match us, hl with | [_], _ => rfl⟩, F.kp⟩
theorem Fn__law_state (T : Txt WW K mg) : Fn P WW K mg base 1 (He.ga K "_law_state") 1 sp__law_state := by
  obtain ⟨fd, F⟩ := T.d__law_state
  exact fn__law_state F T
theorem sc__law_wrong_row : FnScope ["_law_state_here", "_law_plain_here", "_law_some", "_law_haves", "_law_due_here", "_law_rest"] ["_law_state_here"] (defScope s__law_wrong_row) := ⟨rfl, rfl, rfl, by decide +kernel, rfl, by decide +kernel, by decide +kernel⟩
theorem ok__law_wrong_row {f : Addr} {fd : FuncData} (F : FunD K "_law_wrong_row" "_law_wrong_row" (defArgs s__law_wrong_row) (defBody s__law_wrong_row) (defScope s__law_wrong_row) [] [] f fd) (T : Txt WW K mg) : FnOk P WW K mg base (L2.CX P WW) 3 f fd ["_law_state_here"] (lSp K 1 sp__law_wrong_row) := by
  unfold sp__law_wrong_row
  refine fn_body (k := 2) (m := m__law_wrong_row) F sc__law_wrong_row (fun cdv A outer s H E w hr cx => ?_)
  have S := sc__law_wrong_row
  have hu64 := hr.units
  have hu1 := hu_of hr
  unfold m__law_wrong_row
  exact (jss_strT S.nd
    (jsst_cons (jst_set S.nd (jet_lst (jat_cons (jet_of je_str) (jat_cons (jet_of je_str) (jat_cons (jet_of je_str) (jat_cons (jet_of je_str) (jat_cons (jet_of (je_op opN_add (je_var (i := 1)) je_str)) (jat_cons (jet_of (je_op opN_add je_str (je_var (i := 1)))) (jat_cons (jet_repl (jet_of (je_var (i := 1)))) (jat_cons (jet_of (je_op opN_add (je_var (i := 1)) je_str)) jat_nil))))))))))
    (jsst_of (jss_cons (js_set S.nd (je_op opN_add (je_var (i := 2)) (je_lst (ja_cons (je_op opN_add (je_var (i := 1)) je_str) (ja_cons (je_op opN_add (je_var (i := 1)) je_str) (ja_cons je_str (ja_cons je_str ja_nil)))))))
    (jss_cons (js_set S.nd (je_op opN_add (je_var (i := 2)) (je_lst (ja_cons je_str (ja_cons je_str (ja_cons je_str ja_nil))))))
    (jss_cons (js_for cx (je_lst (ja_cons je_str (ja_cons je_str (ja_cons je_str (ja_cons je_str (ja_cons je_str (ja_cons je_str (ja_cons je_str (ja_cons je_str (ja_cons je_str ja_nil)))))))))) (jg_name S.nd)
    (jss_one (js_expr (je_append (je_var (i := 2)) (ja_cons (je_op opN_add (je_op opN_add je_str (je_var (i := 3))) je_str) ja_nil)))))
    (jss_cons (js_for cx (je_lst (ja_cons je_str (ja_cons je_str (ja_cons je_str (ja_cons je_str (ja_cons je_str (ja_cons je_str (ja_cons je_str (ja_cons je_str (ja_cons je_str (ja_cons je_str (ja_cons je_str (ja_cons je_str ja_nil))))))))))))) (jg_name S.nd)
    (jss_one (js_expr (je_append (je_var (i := 2)) (ja_cons (je_op opN_add je_str (je_var (i := 4))) ja_nil)))))
    (jss_cons (js_for cx (je_lst (ja_cons je_str (ja_cons je_str (ja_cons je_str (ja_cons je_str (ja_cons je_str ja_nil)))))) (jg_name S.nd)
    (jss_one (js_expr (je_append (je_var (i := 2)) (ja_cons (je_op opN_add je_str (je_var (i := 5))) ja_nil)))))
    (jss_cons (js_for cx (je_lst (ja_cons je_str (ja_cons je_str (ja_cons je_str (ja_cons je_str (ja_cons je_str ja_nil)))))) (jg_name S.nd)
    (jss_one (js_expr (je_append (je_var (i := 2)) (ja_cons (je_op opN_add je_str (je_var (i := 5))) ja_nil)))))
    (jss_cons (js_for cx (je_lst (ja_cons je_str (ja_cons je_str (ja_cons je_str (ja_cons je_str (ja_cons je_str (ja_cons je_str (ja_cons je_str (ja_cons je_str ja_nil))))))))) (jg_name S.nd)
    (jss_one (js_expr (je_append (je_var (i := 2)) (ja_cons (je_op opN_add je_str (je_var (i := 5))) ja_nil)))))
    (jss_one (js_ret (je_ix (ixN_seqv hu1) (je_var (i := 2)) (je_op opN_mod (je_call cx (Fn__law_next T) T.g__law_next (hr.mono (by decide)) (ja_cons (je_var (i := 0)) ja_nil)) (je_callB callN_len T.f_len (ja_cons (je_var (i := 2)) ja_nil))))))))))))))))
theorem fn__law_wrong_row {f : Addr} {fd : FuncData} (F : FunD K "_law_wrong_row" "_law_wrong_row" (defArgs s__law_wrong_row) (defBody s__law_wrong_row) (defScope s__law_wrong_row) [] [] f fd) (T : Txt WW K mg) : Fn P WW K mg base 3 f 1 sp__law_wrong_row :=
  ⟨⟨fd, ["_law_state_here"], rfl, ok__law_wrong_row F T, F.bindsN fun _ _ _ _ _ _ us hl => match us, hl with | [_], _ => rfl⟩, F.kp⟩
theorem Fn__law_wrong_row (T : Txt WW K mg) : Fn P WW K mg base 3 (He.ga K "_law_wrong_row") 1 sp__law_wrong_row := by
  obtain ⟨fd, F⟩ := T.d__law_wrong_row
  exact fn__law_wrong_row F T
theorem sc__law_wrong : FnScope ["_law_rows_here", "_law_state_here", "_law_found", "_law_first", "_law_other"] ["_law_rows_here", "_law_state_here"] (defScope s__law_wrong) := ⟨rfl, rfl, rfl, by decide +kernel, rfl, by decide +kernel, by decide +kernel⟩
theorem ok__law_wrong {f : Addr} {fd : FuncData} (F : FunD K "_law_wrong" "_law_wrong" (defArgs s__law_wrong) (defBody s__law_wrong) (defScope s__law_wrong) [] [] f fd) (T : Txt WW K mg) : FnOk P WW K mg base (L2.CX P WW) 4 f fd ["_law_rows_here", "_law_state_here"] (lSp K 2 sp__law_wrong) := by
  unfold sp__law_wrong
  refine fn_body (k := 3) (m := m__law_wrong) F sc__law_wrong (fun cdv A outer s H E w hr cx => ?_)
  have S := sc__law_wrong
  have hu64 := hr.units
  have hu1 := hu_of hr
  unfold m__law_wrong
  exact (jss_cons (js_set S.nd (je_callTy (callN_listD cx.calm) T.f_list (ja_cons (je_var (i := 0)) ja_nil)))
    (jss_cons (js_set S.nd (je_op opN_mod (je_call cx (Fn__law_next T) T.g__law_next (hr.mono (by decide)) (ja_cons (je_var (i := 1)) ja_nil)) (je_op opN_add (je_callB callN_len T.f_len (ja_cons (je_var (i := 2)) ja_nil)) je_int)))
    (jss_cons (js_expr (je_insert (je_var (i := 2)) (ja_cons (je_var (i := 3)) (ja_cons (je_call cx (Fn__law_wrong_row T) T.g__law_wrong_row (hr.mono (by decide)) (ja_cons (je_var (i := 1)) ja_nil)) ja_nil))))
    (jss_cons (js_if (jt_cmp (opN_eq hu64) (je_op opN_mod (je_call cx (Fn__law_next T) T.g__law_next (hr.mono (by decide)) (ja_cons (je_var (i := 1)) ja_nil)) je_int) je_int (nomark _))
    (jss_cons (js_set S.nd (je_op opN_mod (je_call cx (Fn__law_next T) T.g__law_next (hr.mono (by decide)) (ja_cons (je_var (i := 1)) ja_nil)) (je_op opN_add (je_callB callN_len T.f_len (ja_cons (je_var (i := 2)) ja_nil)) je_int)))
    (jss_cons (js_expr (je_insert (je_var (i := 2)) (ja_cons (je_var (i := 4)) (ja_cons (je_call cx (Fn__law_wrong_row T) T.g__law_wrong_row (hr.mono (by decide)) (ja_cons (je_var (i := 1)) ja_nil)) ja_nil))))
    (jss_one (js_set S.nd (je_callB (callN_min2 cx.calm) T.f_min (ja_cons (je_var (i := 3)) (ja_cons (je_var (i := 4)) ja_nil)))))))
    jss_nil)
    (jss_one (js_ret (je_tup (ja_cons (je_var (i := 2)) (ja_cons (je_op opN_add (je_var (i := 3)) je_int) ja_nil)))))))))
theorem fn__law_wrong {f : Addr} {fd : FuncData} (F : FunD K "_law_wrong" "_law_wrong" (defArgs s__law_wrong) (defBody s__law_wrong) (defScope s__law_wrong) [] [] f fd) (T : Txt WW K mg) : Fn P WW K mg base 4 f 2 sp__law_wrong :=
  ⟨⟨fd, ["_law_rows_here", "_law_state_here"], rfl, ok__law_wrong F T, F.bindsN fun _ _ _ _ _ _ us hl => match us, hl with | [_, _], _ => rfl⟩, F.kp⟩
theorem Fn__law_wrong (T : Txt WW K mg) : Fn P WW K mg base 4 (He.ga K "_law_wrong") 2 sp__law_wrong := by
  obtain ⟨fd, F⟩ := T.d__law_wrong
  exact fn__law_wrong F T
theorem sc_law : FnScope ["_law_script", "_law_cell", "_law_state_here", "_law_own", "_law_rows_here", "_law_wrong_here", "_law_due_here", "_law_odd", "_law_text"] ["_law_script"] (defScope s_law) := ⟨rfl, rfl, rfl, by decide +kernel, rfl, by decide +kernel, by decide +kernel⟩
theorem ok_law {f : Addr} {fd : FuncData} (F : FunD K "law" "law" (defArgs s_law) (defBody s_law) (defScope s_law) [] [] f fd) (T : Txt WW K mg) : FnOk P WW K mg base (L2.CX P WW) 13 f fd ["_law_script"] (lSp K 1 sp_law) := by
  unfold sp_law
  refine fn_body (k := 12) (m := m_law) F sc_law (fun cdv A outer s H E w hr cx => ?_)
  have S := sc_law
  have hu64 := hr.units
  have hu1 := hu_of hr
  unfold m_law
  exact (jss_cons (js_for cx (je_var (i := 0)) (jg_name S.nd)
    (jss_cons (js_set S.nd (je_call cx (Fn__law_state T) T.g__law_state (hr.mono (by decide)) (ja_cons (je_lst (ja_cons (je_var (i := 1)) ja_nil)) ja_nil)))
    (jss_cons (js_set S.nd (je_call cx (Fn__law_market T) T.g__law_market (hr.mono (by decide)) (ja_cons (je_var (i := 2)) ja_nil)))
    (jss_cons (js_set S.nd (je_call cx (Fn__law_rows T) T.g__law_rows (hr.mono (by decide)) (ja_cons (je_var (i := 3)) ja_nil)))
    (jss_cons (js_asg (je_call cx (Fn__law_wrong T) T.g__law_wrong (hr.mono (by decide)) (ja_cons (je_var (i := 4)) (ja_cons (je_var (i := 2)) ja_nil))) (jg_tup cx (jgs_cons (jg_name S.nd) (jgs_cons (jg_name S.nd) jgs_nil))))
    (jss_cons (js_if (jt_w (jw_or (jt_cmp (opN_ne hu64) (je_call cx (Fn__law_said T) T.g__law_said (hr.mono (by decide)) (ja_cons (je_join je_str (je_var (i := 5))) ja_nil)) (je_tup (ja_cons je_str (ja_cons (je_var (i := 6)) ja_nil))) (nomark _)) (jw_or1 (jt_not (jt_val (je_call cx (Fn__law_called_twice T) T.g__law_called_twice (hr.mono (by decide)) (ja_cons (je_var (i := 3)) (ja_cons (je_var (i := 4)) (ja_cons (je_var (i := 2)) ja_nil)))))))))
    (jss_one (js_ret je_bl))
    jss_nil)
    (jss_cons (js_if (jt_w (jw_or (jt_not (jt_val (je_call cx (Fn__law_full T) T.g__law_full (hr.mono (by decide)) (ja_cons (je_var (i := 3)) (ja_cons (je_var (i := 4)) ja_nil))))) (jw_or1 (jt_cmp (opN_ne hu64) (je_call cx (Fn__law_said T) T.g__law_said (hr.mono (by decide)) (ja_cons (je_join je_str (je_var (i := 4))) ja_nil)) (je_tup (ja_cons je_str (ja_cons (je_join je_str (je_var (i := 4))) ja_nil))) (nomark _)))))
    (jss_one (js_ret je_bl))
    jss_nil)
    (jss_cons (js_if (jt_cmp (opN_ne hu64) (je_call cx (Fn__law_said T) T.g__law_said (hr.mono (by decide)) (ja_cons (je_join je_str (je_op opN_add (je_var (i := 4)) (je_lst (ja_cons je_str ja_nil)))) ja_nil)) (je_tup (ja_cons je_str (ja_cons (je_op opN_add (je_callB callN_len T.f_len (ja_cons (je_var (i := 4)) ja_nil)) je_int) ja_nil))) (nomark _))
    (jss_one (js_ret je_bl))
    jss_nil)
    (jss_cons (js_set S.nd (je_ix (ixN_seqv hu1) (je_lst (ja_cons je_non (ja_cons je_int (ja_cons (je_var (i := 4)) (ja_cons je_bl (ja_cons je_dic0 (ja_cons (je_tup (ja_cons je_str ja_nil)) ja_nil))))))) (je_op opN_mod (je_call cx (Fn__law_next T) T.g__law_next (hr.mono (by decide)) (ja_cons (je_var (i := 2)) ja_nil)) je_int)))
    (jss_one (js_if (jt_cmp (opN_ne hu64) (je_call cx (Fn__law_said T) T.g__law_said (hr.mono (by decide)) (ja_cons (je_var (i := 7)) ja_nil)) (je_tup (ja_cons je_str (ja_cons je_int ja_nil))) (nomark _))
    (jss_one (js_ret je_bl))
    jss_nil)))))))))))
    (jss_one (js_ret (je_cmp (opN_eq hu64) (je_lc (own := [("_law_text", 8)]) cx S.nd (ji_seq (je_tup (ja_cons je_str (ja_cons je_str (ja_cons je_str ja_nil))))) (by rfl) (fun _ _ _ _ _ cx => (jgv_name S.nd (by decide))) (fun _ _ _ _ _ cx => jts_nil) (fun _ _ _ _ _ cx => (je_call cx (Fn__law_said T) T.g__law_said (hr.mono (by decide)) (ja_cons (je_var (i := 8)) ja_nil)))) (je_op opN_mulL (je_lst (ja_cons (je_tup (ja_cons je_str (ja_cons je_int ja_nil))) ja_nil)) je_int) (nomark _)))))
theorem fn_law {f : Addr} {fd : FuncData} (F : FunD K "law" "law" (defArgs s_law) (defBody s_law) (defScope s_law) [] [] f fd) (T : Txt WW K mg) : Fn P WW K mg base 13 f 1 sp_law :=
  ⟨⟨fd, ["_law_script"], rfl, ok_law F T, F.bindsN fun _ _ _ _ _ _ us hl => match us, hl with | [_], _ => rfl⟩, F.kp⟩
theorem Fn_law (T : Txt WW K mg) : Fn P WW K mg base 13 (He.ga K "law") 1 sp_law := by
  obtain ⟨fd, F⟩ := T.d_law
  exact fn_law F T
end
end K12

namespace K12
open PySem N L2
set_option maxHeartbeats 4000000
local macro_rules | `(tactic| simp_arith [$args,*]) => `(tactic| simp -implicitDefEqProofs only [↓u_mLam, ↓u_mAct, ↓u_mM1, ↓u_nJoin, ↓u_nSplit, ↓u_nPart, ↓u_mTabGet, ↓u_sRaiseX, ↓u_iKeysN, ↓u_iValsN, ↓u_iItemsN, ↓u_nListD, ↓u_mListVals, ↓u_nExtend, ↓u_nEqX, ↓u_nNeX, ↓u_nEqL, ↓u_nNeL, ↓u_mMethD, ↓u_mOrT, ↓u_nMulS, ↓u_nMulL, ↓u_nEqG, ↓u_nNeG, lokOf, dic1, ↓u_mOp, ↓u_mTst, ↓u_mVar, ↓u_mC, ↓u_mAnd, ↓u_mOr, ↓u_mNot, ↓u_mAndV, ↓u_mOrV, ↓u_mNotV, ↓u_mIf, ↓u_mChain, ↓u_mNil, ↓u_mCons, ↓u_mTup, ↓u_mLst, ↓u_mDic0, ↓u_nAdd, ↓u_nInt, ↓u_nInt0, ↓u_nIsN, ↓u_nNotN, ↓u_nEq, ↓u_nNe, ↓u_nNin, ↓u_nIx, ↓u_mNoPart, ↓u_mPart, ↓u_nSl, ↓u_mSl, ↓u_nRev, ↓u_mUn, ↓u_nNeg, ↓u_nFld, ↓u_sFldN, ↓u_mCallB, ↓u_nLen, ↓u_nMax2, ↓u_nMin2, ↓u_nAbs, ↓u_nInt1, ↓u_nStr1, ↓u_nList1, ↓u_nTuple1, ↓u_mCall, ↓u_mMeth, ↓u_mMake, ↓u_spOf, ↓u_sNext, ↓u_sSeq, ↓u_sBreak, ↓u_sCont, ↓u_sDrop, ↓u_sRet, ↓u_sIf, ↓u_gNm, ↓u_gsNil, ↓u_gsCons, ↓u_gTp, ↓u_sAsg, ↓u_sSet, ↓u_nSet, ↓u_gIx, ↓u_sAug, ↓u_nAdd', ↓u_nGet, ↓u_sAugS, ↓u_nWalk, ↓u_sFor, ↓u_sForR1, ↓u_sForR2, ↓u_sRaise, ↓u_sTryO, ↓u_sTryK, ↓u_nTupIndex, ↓u_mTupIndex, ↓u_nIndex, ↓u_mLm, ↓u_nAppend, ↓u_nIndexL, ↓u_mDisp, ↓u_sFldAugN, ↓u_nSub, ↓u_nMul, ↓u_nDiv, ↓u_nMod, ↓u_nPow, ↓u_nLt, ↓u_nLe, ↓u_nGt, ↓u_nGe, ↓u_nIn, ↓nth, ↓startN, ↓mPairs, ↓u_mLc, u_nwipe0, u_nwipe1, ↓u_mYes, ↓u_iWalk, ↓u_nWalkA, ↓u_iRg1, ↓u_iRg2, ↓u_nLstAt, ↓u_iEnumN, ↓u_iZipN, ↓u_iZipW, ↓u_sForI, ↓u_nSum, ↓u_nAll, ↓u_nMaxL, ↓u_nIsC, ↓u_nRevP, u_nMax1L, u_nMax1T, u_nSum1T, u_nSum1L, ↓u_nDictP, ↓u_mListRg2, u_nXf, u_nInsert, u_nRepl, u_nMinT, u_nSortQ, u_nRepI, ↓u_sPar, lstOf, lenD, seqOf, dicOf, keyD, isNonD, eqT_ii, eqT_ss, eqT_bb, eqT_nn, eqT_ni, eqT_in, eqT_nb, eqT_bn, eqT_ns, eqT_sn, eqT_is, eqT_si, Nat.zero_add, Nat.reduceAdd, Nat.zero_le, sl_0, sm_0, sl_1, sm_1, sl_2, sm_2, sl_3, sm_3, sl_4, sm_4, sl_5, sm_5, sl_6, sm_6, sl_7, sm_7, sl_8, sm_8, sl_9, sm_9, sl_10, sm_10, sl_11, sm_11, sl_12, sm_12, List.set_cons_zero, List.set_cons_succ, List.map_cons, List.map_nil, List.length_cons, List.length_nil, true_and, $args,*])
local macro_rules | `(tactic| simp_arith! [$args,*]) => `(tactic| simp -implicitDefEqProofs only [u_runF, u_spOf, $args,*])
/-! ### makers -/
inductive Kd where | pr | st | su
structure Mk where
  k : Kd
  s : Int
  c : Int
  t : Int
  b : Int
  x : Int
  y : Int
def Mk.more (m : Mk) : List D := match m.k with
  | .pr => []
  | _ => [.tup [.int m.x, .int m.y]]
def Mk.word (m : Mk) : Str := match m.k with
  | .pr => "product"
  | .st => "stretch"
  | .su => "sum"
def Mk.cn (m : Mk) : Str := match m.k with
  | .pr => "Product"
  | .st => "Stretch"
  | .su => "Sum"
def Mk.d (m : Mk) : D := .tup (.str m.word :: .int m.s :: .int m.c :: .tup [.int m.t, .int m.b] :: m.more)
/-- a due -/
structure Due (t b : Int) : Prop where
  t0 : 0 ≤ t
  b1 : 1 ≤ b
  b2 : b ≤ 10000
  tb : 10 * t ≤ b
structure Mk.Ok (m : Mk) : Prop where
  s0 : 0 ≤ m.s
  s1 : m.s ≤ 1000000000000
  c0 : 0 ≤ m.c
  c1 : m.c ≤ 1000000000000
  due : Due m.t m.b
  pr : m.k = .pr → 1 ≤ m.s ∧ 1 ≤ m.c
  st : m.k = .st → 0 ≤ m.x ∧ m.x ≤ 1000000000000 ∧ 0 ≤ m.y ∧ m.y ≤ 1000000000000 ∧ 1 ≤ m.s + m.x ∧ 1 ≤ m.c + m.y
  su : m.k = .su → 1 ≤ m.x ∧ m.x ≤ 1000000 ∧ 1 ≤ m.y ∧ m.y ≤ 1000000
theorem is_whole_int {i : Int} {S : Sto} {Q : NQ} {E} {T : TgQ Q E} : runF sp_is_whole [.int i] S Q E T = Q (.bl true) S := by
  simp_arith! [sp_is_whole, m_is_whole]
  simp_arith [↓isi_int_int, ↓isi_int_bool]
  rfl
theorem is_among_int {i a b : Int} {S : Sto} {Q : NQ} {E} {T : TgQ Q E} : runF sp_is_among [.int i, .int a, .int b] S Q E T = Q (.bl (decide (a ≤ i) && decide (i ≤ b))) S := by
  simp_arith! [sp_is_among, m_is_among]
  simp_arith [↓is_whole_int, true_and]
  cases decide (a ≤ i) <;> rfl
theorem is_pair_int {i j a b : Int} {S : Sto} {Q : NQ} {E} {T : TgQ Q E} : runF sp_is_pair [.tup [.int i, .int j], .int a, .int b] S Q E T = Q (.bl ((decide (a ≤ i) && decide (i ≤ b)) && (decide (a ≤ j) && decide (j ≤ b)))) S := by
  simp_arith! [sp_is_pair, m_is_pair]
  simp_arith [↓isi_tup_tuple, ↓is_among_int, true_and, Bool.not_true, ↓atI_0, ↓atI_1, Nat.zero_add, Nat.reduceAdd, Int.cast_ofNat_Int, decide_true]
  generalize (decide (a ≤ i) && decide (i ≤ b)) = u
  cases u
  · rfl
  · rfl
theorem is_due_int {t b : Int} {S : Sto} {Q : NQ} {E} {T : TgQ Q E} : runF sp_is_due [.tup [.int t, .int b]] S Q E T = Q (.bl (((decide (0 ≤ t) && decide (t ≤ 10000)) && (decide (0 ≤ b) && decide (b ≤ 10000))) && (decide (1 ≤ b) && decide (10 * t ≤ b)))) S := by
  simp_arith! [sp_is_due, m_is_due]
  simp_arith [↓is_pair_int, true_and, ↓atI_0, ↓atI_1]
  have hm : MulOk 10 t := .inl (by decide)
  simp only [hm, true_and]
  cases (decide (0 ≤ t) && decide (t ≤ 10000)) <;> cases (decide (0 ≤ b) && decide (b ≤ 10000)) <;> cases decide (1 ≤ b) <;> rfl
theorem is_due_ok {t b : Int} (h : Due t b) {S : Sto} {Q : NQ} {E} {T : TgQ Q E} : runF sp_is_due [.tup [.int t, .int b]] S Q E T = Q (.bl true) S := by
  rw [is_due_int]
  obtain ⟨h1, h2, h3, h4⟩ := h
  have e1 : 0 ≤ b := by omega
  have e2 : t ≤ 10000 := by omega
  simp only [h1, h2, h3, h4, e1, e2, decide_true, Bool.and_self]
theorem is_plain_ok {m : Mk} (h : m.Ok) {S : Sto} {Q : NQ} {E} {T : TgQ Q E} : runF sp_is_plain [m.d] S Q E T = Q (.bl true) S := by
  obtain ⟨s0, s1, c0, c1, du, hp, hs, hu⟩ := h
  obtain ⟨k, s, c, t, b, x, y⟩ := m
  dsimp only at *
  simp_arith! [sp_is_plain, m_is_plain]
  unfold Mk.d
  cases k with
  | pr =>
    obtain ⟨h1, h2⟩ := hp rfl
    simp_arith [Mk.more, Mk.word, ↓isi_tup_tuple, ↓isi_str_str, ↓is_due_ok du, ↓is_pair_int, true_and, Bool.not_true, ↓atI_0, ↓atI_1, ↓atI_2, ↓atI_3, ↓atI_4, ↓cut_13, ofString_inj, decide_true, s0, s1, c0, c1, h1, h2, Bool.and_self, Nat.zero_add, Nat.reduceAdd, Int.cast_ofNat_Int, Int.reduceLE, Int.reduceEq, decide_false, Bool.not_false]
  | st =>
    obtain ⟨h1, h2, h3, h4, h5, h6⟩ := hs rfl
    have n1 : ("stretch" = "product") = False := by decide
    have n2 : ("stretch" = "sum") = False := by decide
    simp_arith [Mk.more, Mk.word, ↓isi_tup_tuple, ↓isi_str_str, ↓is_due_ok du, ↓is_pair_int, true_and, Bool.not_true, ↓atI_0, ↓atI_1, ↓atI_2, ↓atI_3, ↓atI_4, ↓cut_13, ofString_inj, decide_true, s0, s1, c0, c1, h1, h2, h3, h4, h5, h6, n1, n2, Bool.and_self, Nat.zero_add, Nat.reduceAdd, Int.cast_ofNat_Int, Int.reduceLE, Int.reduceEq, decide_false, Bool.not_false]
  | su =>
    obtain ⟨h1, h2, h3, h4⟩ := hu rfl
    have n1 : ("sum" = "product") = False := by decide
    simp_arith [Mk.more, Mk.word, ↓isi_tup_tuple, ↓isi_str_str, ↓is_due_ok du, ↓is_pair_int, true_and, Bool.not_true, ↓atI_0, ↓atI_1, ↓atI_2, ↓atI_3, ↓atI_4, ↓cut_13, ofString_inj, decide_true, s0, s1, c0, c1, h1, h2, h3, h4, n1, Bool.and_self, Nat.zero_add, Nat.reduceAdd, Int.cast_ofNat_Int, Int.reduceLE, Int.reduceEq, decide_false, Bool.not_false]

/-! ### wares -/
def wr (side : Int) : Str := if side = 0 then "salt" else "cloth"
/-! ### a maker at its address -/
@[irreducible] def mFs (m : Mk) (q : Addr) : List (Str × D) := [("stock", .ref q), ("due", .tup [.int m.t, .int m.b]), ("more", .tup m.more), ("rest", .int (m.b - m.t)), ("parts", .int m.b)]
theorem mFs_stock {m : Mk} {q : Addr} : (mFs m q).lookup ("stock" : Str) = some (.ref q) := by unfold mFs; simp [List.lookup, ofString_beq]
theorem mFs_due {m : Mk} {q : Addr} : (mFs m q).lookup ("due" : Str) = some (.tup [.int m.t, .int m.b]) := by unfold mFs; simp [List.lookup, ofString_beq]
theorem mFs_more {m : Mk} {q : Addr} : (mFs m q).lookup ("more" : Str) = some (.tup m.more) := by unfold mFs; simp [List.lookup, ofString_beq]
theorem mFs_rest {m : Mk} {q : Addr} : (mFs m q).lookup ("rest" : Str) = some (.int (m.b - m.t)) := by unfold mFs; simp [List.lookup, ofString_beq]
theorem mFs_parts {m : Mk} {q : Addr} : (mFs m q).lookup ("parts" : Str) = some (.int m.b) := by unfold mFs; simp [List.lookup, ofString_beq]
theorem mFs_no {m : Mk} {q : Addr} {f : String} (h : f ≠ "stock" ∧ f ≠ "due" ∧ f ≠ "more" ∧ f ≠ "rest" ∧ f ≠ "parts") : (mFs m q).lookup (f : Str) = none := by
  obtain ⟨h1, h2, h3, h4, h5⟩ := h
  have h1 := beq_eq_false_iff_ne.mpr h1
  have h2 := beq_eq_false_iff_ne.mpr h2
  have h3 := beq_eq_false_iff_ne.mpr h3
  have h4 := beq_eq_false_iff_ne.mpr h4
  have h5 := beq_eq_false_iff_ne.mpr h5
  unfold mFs; simp only [List.lookup, ofString_beq, h1, h2, h3, h4, h5]
structure MkAt (p q : Addr) (m : Mk) (S : Sto) : Prop where
  ins : S p = some (.ins m.cn (mFs m q))
  lst : S q = some (.lst [.int m.s, .int m.c])
  ne : p ≠ q
theorem MkAt.up {p q : Addr} {m : Mk} {S S' : Sto} {A : List Addr} (h : MkAt p q m S) (u : Upd A S S') (hp : p ∉ A) (hq : q ∉ A) : MkAt p q m S' := ⟨u p _ hp h.ins, u q _ hq h.lst, h.ne⟩
def Mk.stk (m : Mk) (i : Int) : Int := if i = 0 then m.s else m.c
def Mk.px (m : Mk) : Int := match m.k with | .st => m.x | _ => 0
def Mk.py (m : Mk) : Int := match m.k with | .st => m.y | _ => 0
def Mk.gr (m : Mk) (i : Int) : Int := if i = 0 then m.s + m.px else m.c + m.py
def Mk.rt (m : Mk) (i : Int) : Int := if i = 0 then m.x else m.y
def Mk.got (m : Mk) (i n : Int) : Int := match m.k with
  | .su => n * (m.b - m.t) * m.rt (1 - i) / (m.b * m.rt i)
  | _ => m.gr (1 - i) * (n * (m.b - m.t)) / (m.gr i * m.b + n * (m.b - m.t))
def mn (a b : Int) : Int := if b < a then b else a
def Mk.comes (m : Mk) (i n : Int) : Int := mn (m.got i n) (m.stk (1 - i))
def Mk.deal (m : Mk) (i n : Int) : Mk := if i = 0 then { m with s := m.s + n, c := m.c - m.comes 0 n } else { m with c := m.c + n, s := m.s - m.comes 1 n }
def Sd (i : Int) : Prop := i = 0 ∨ i = 1
theorem at_sd {α : Type} {x y : α} {i : Int} (h : Sd i) : atI [x, y] i = some (if i = 0 then x else y) := by rcases h with rfl | rfl <;> rfl
theorem at_sd' {α : Type} {x y : α} {i : Int} (h : Sd i) : atI [x, y] (1 - i) = some (if 1 - i = 0 then x else y) := by rcases h with rfl | rfl <;> rfl
theorem int_if {c : Prop} [Decidable c] {x y : Int} : (if c then D.int x else D.int y) = D.int (if c then x else y) := by split <;> rfl
/-- what a deal asks for -/
structure Ask0 (m : Mk) (i n : Int) : Prop where
  ok : m.Ok
  sd : Sd i
  n1 : 1 ≤ n
  n2 : n ≤ 100000000000000
structure Asks (m : Mk) (i n : Int) : Prop extends Ask0 m i n where
  top : m.stk i + n ≤ 1000000000000
theorem Mk.Ok.px {m : Mk} (h : m.Ok) : 0 ≤ m.px ∧ m.px ≤ 1000000000000 ∧ 0 ≤ m.py ∧ m.py ≤ 1000000000000 := by
  have := h.st
  obtain ⟨k, s, c, t, b, x, y⟩ := m
  cases k
  · refine ⟨Int.le_refl _, ?_, Int.le_refl _, ?_⟩ <;> exact (by decide : (0 : Int) ≤ 1000000000000)
  · obtain ⟨h1, h2, h3, h4, _⟩ := this rfl
    exact ⟨h1, h2, h3, h4⟩
  · refine ⟨Int.le_refl _, ?_, Int.le_refl _, ?_⟩ <;> exact (by decide : (0 : Int) ≤ 1000000000000)
theorem Mk.Ok.gr {m : Mk} (h : m.Ok) (i : Int) : 0 ≤ m.gr i ∧ m.gr i ≤ 2000000000000 := by
  have h1 := h.s0; have h2 := h.s1; have h3 := h.c0; have h4 := h.c1; have h5 := h.px
  unfold Mk.gr
  split <;> omega
theorem Ask0.den {m : Mk} {i n : Int} (h : Ask0 m i n) : 0 < m.gr i * m.b + n * (m.b - m.t) ∧ m.gr i * m.b + n * (m.b - m.t) < 2 ^ 64 ∧ 0 ≤ n * (m.b - m.t) ∧ n * (m.b - m.t) ≤ 1000000000000000000 := by
  have g := h.ok.gr i
  have n1 := h.n1; have n2 := h.n2
  obtain ⟨t0, b1, b2, tb⟩ := h.ok.due
  have r1 : 1 ≤ m.b - m.t := by omega
  have r2 : m.b - m.t ≤ 10000 := by omega
  have a1 : 1 * 1 ≤ n * (m.b - m.t) := Int.mul_le_mul n1 r1 (by decide) (by omega)
  have a2 : n * (m.b - m.t) ≤ 100000000000000 * 10000 := Int.mul_le_mul n2 r2 (by omega) (by decide)
  have a3 : 0 ≤ m.gr i * m.b := Int.mul_nonneg g.1 (by omega)
  have a4 : m.gr i * m.b ≤ 2000000000000 * 10000 := Int.mul_le_mul g.2 b2 (by omega) (by decide)
  omega
/-! #### the methods by kind -/
theorem cn_pr {m : Mk} (h : m.k = .pr) : m.cn = "Product" := by unfold Mk.cn; rw [h]
theorem cn_st {m : Mk} (h : m.k = .st) : m.cn = "Stretch" := by unfold Mk.cn; rw [h]
theorem cn_su {m : Mk} (h : m.k = .su) : m.cn = "Sum" := by unfold Mk.cn; rw [h]
theorem deal_fs {m : Mk} {i n : Int} {q : Addr} : mFs (m.deal i n) q = mFs m q := by
  unfold Mk.deal
  by_cases hi : i = 0
  · rw [if_pos hi]; unfold mFs Mk.more; rfl
  · rw [if_neg hi]; unfold mFs Mk.more; rfl
theorem deal_cn {m : Mk} {i n : Int} : (m.deal i n).cn = m.cn := by
  unfold Mk.deal
  by_cases hi : i = 0
  · rw [if_pos hi]; rfl
  · rw [if_neg hi]; rfl
/-! ### the tuple of a maker -/
theorem eqT_d {m : Mk} {S : Sto} : eqT S m.d m.d = some true := by
  obtain ⟨k, s, c, t, b, x, y⟩ := m
  cases k
  · exact eqT_tup (ps := [.str "product", .int s, .int c, .tuple [.int t, .int b]]) rfl (by simp [PyData.canLayAll0, PyData.canLay0, str_ok]) (by simp [PyData.depthAll, PyData.depth])
  · exact eqT_tup (ps := [.str "stretch", .int s, .int c, .tuple [.int t, .int b], .tuple [.int x, .int y]]) rfl (by simp [PyData.canLayAll0, PyData.canLay0, str_ok]) (by simp [PyData.depthAll, PyData.depth])
  · exact eqT_tup (ps := [.str "sum", .int s, .int c, .tuple [.int t, .int b], .tuple [.int x, .int y]]) rfl (by simp [PyData.canLayAll0, PyData.canLay0, str_ok]) (by simp [PyData.depthAll, PyData.depth])
def Mk.fn (m : Mk) : NSp := match m.k with | .pr => sp_Maker_called | .st => sp_Stretch_called | .su => sp_Sum_called
theorem mt_called {m : Mk} : mt_Maker_called m.cn = some (1, m.fn) := by
  obtain ⟨k, s, c, t, b, x, y⟩ := m
  cases k <;> simp [Mk.cn, Mk.fn, mt_Maker_called, ofString_inj]
theorem called_ok {p : Addr} {m : Mk} {S : Sto} {Q : NQ} {E} {T : TgQ Q E} : runF m.fn [.ref p] S Q E T = Q (.str m.word) S := by
  obtain ⟨k, s, c, t, b, x, y⟩ := m
  cases k
  · show runF sp_Maker_called [.ref p] S Q E T = Q (.str "product") S
    simp_arith! [sp_Maker_called, m_Maker_called]
    simp_arith []
  · show runF sp_Stretch_called [.ref p] S Q E T = Q (.str "stretch") S
    simp_arith! [sp_Stretch_called, m_Stretch_called]
    simp_arith []
  · show runF sp_Sum_called [.ref p] S Q E T = Q (.str "sum") S
    simp_arith! [sp_Sum_called, m_Sum_called]
    simp_arith []
theorem mt_plain {m : Mk} : mt_Maker_plain m.cn = some (1, sp_Maker_plain) := by
  obtain ⟨k, s, c, t, b, x, y⟩ := m
  cases k <;> simp [Mk.cn, mt_Maker_plain, ofString_inj]
theorem more_len {m : Mk} : ((0 + 1 + 1 + 1 + 1 + m.more.length ≤ sizeLine) = True) := by
  refine eq_true ?_
  have : m.more.length ≤ 1 := by unfold Mk.more; split <;> simp
  have : (5 : Nat) ≤ sizeLine := by decide
  omega
theorem get_plain_ok {p q : Addr} {m : Mk} {S : Sto} {Q : NQ} {E} {T : TgQ Q E} (h : MkAt p q m S) : runF sp_Maker_plain [.ref p] S Q E T = Q m.d S := by
  simp_arith! [sp_Maker_plain, m_Maker_plain]
  unfold Mk.d
  have := @more_len m
  simp only [Nat.zero_add, Nat.reduceAdd] at this
  simp_arith [h.ins, h.lst, mt_called, called_ok, mFs_stock, mFs_due, mFs_more, atI_0, atI_1, mFs_no (m := m) (q := q) (f := "called") (by decide), List.cons_append, List.nil_append, this]
/-! ### numbers drawn -/
theorem mixed_ok {c k : Int} (h0 : 0 ≤ k) (h1 : k < 1000) {S : Sto} {Q : NQ} {E} {T : TgQ Q E} (h : ∀ v, 0 ≤ v → v < 2147483647 → Q (.int v) S) : runF sp__law_mixed [.int c, .int k] S Q E T := by
  simp_arith! [sp__law_mixed, m__law_mixed]
  have e1 : N.MulOk 2 k := .inl (by decide)
  have e2 : N.MulOk (2 * k) k := .inl (by omega)
  have e3 : 0 ≤ k * k ∧ k * k < 1000000 := ⟨Int.mul_nonneg h0 h0, by have := Int.mul_le_mul (by omega : k ≤ 999) (by omega : k ≤ 999) h0 (by omega : (0 : Int) ≤ 999); omega⟩
  have e4 : 2 * k * k = 2 * (k * k) := Int.mul_assoc _ _ _
  have e5 : N.MulOk c (48271 + 2 * k * k) := .inr (.inl (by omega))
  have e6 : N.MulOk 69621 k := .inl (by decide)
  have e7 : ∀ z, N.MulOk z 69621 := fun z => .inr (.inl (by decide))
  have e8 : (0 : Int) < 2147483647 := by decide
  have e9 : (0 : Int) < 2147483629 := by decide
  simp_arith [e1, e2, e5, e6, e7, e8, e9, true_and]
  have := mod_lt (i := (c * (48271 + 2 * k * k) + 69621 * k + 11) % 2147483647 * 69621) e9
  exact h _ this.1 (by omega)
structure Dr (a b : Addr) (ns : List Int) (S S' : Sto) : Prop where
  l : LSt a b ns S'
  u : Upd [a, b] S S'
theorem Dr.trans {a b : Addr} {ns : List Int} {S S1 S2 : Sto} (h : Dr a b ns S S1) (k : Dr a b ns S1 S2) : Dr a b ns S S2 := ⟨k.l, h.u.trans k.u⟩
theorem Dr.new {a b : Addr} {ns : List Int} {S S1 : Sto} {p : Addr} {o : Ob} (h : Dr a b ns S S1) (hp : S1 p = none) : Dr a b ns S (put S1 p o) := ⟨h.l.up (A := []) (Upd.new hp) (by simp) (by simp), h.u.trans (Upd.new hp)⟩
def mx (a b : Int) : Int := if b > a then b else a
theorem ok_pr {s c t b : Int} (s0 : 0 ≤ s) (s1 : s ≤ 1000000000000) (c0 : 0 ≤ c) (c1 : c ≤ 1000000000000) (du : Due t b) : (Mk.mk .pr (if s > 1 then s else 1) (if c > 1 then c else 1) t b 0 0).Ok := by
  refine ⟨?_, ?_, ?_, ?_, du, fun _ => ⟨?_, ?_⟩, nofun, nofun⟩ <;> dsimp only <;> split <;> omega
theorem ok_st {s c t b x y : Int} (s0 : 0 ≤ s) (s1 : s ≤ 1000000000000) (c0 : 0 ≤ c) (c1 : c ≤ 1000000000000) (x0 : 0 ≤ x) (x1 : x ≤ 1000000000000) (y0 : 0 ≤ y) (y1 : y ≤ 1000000000000) (du : Due t b) : (Mk.mk .st s c t b (if x > 1 - (if s < 1 then s else 1) then x else 1 - (if s < 1 then s else 1)) (if y > 1 - (if c < 1 then c else 1) then y else 1 - (if c < 1 then c else 1))).Ok := by
  refine ⟨s0, s1, c0, c1, du, nofun, fun _ => ⟨?_, ?_, ?_, ?_, ?_, ?_⟩, nofun⟩ <;> dsimp only <;> (repeat' split) <;> omega
theorem ok_su {s c t b x y : Int} (s0 : 0 ≤ s) (s1 : s ≤ 1000000000000) (c0 : 0 ≤ c) (c1 : c ≤ 1000000000000) (x0 : 0 ≤ x) (x1 : x ≤ 999999) (y0 : 0 ≤ y) (y1 : y ≤ 999999) (du : Due t b) : (Mk.mk .su s c t b (1 + x) (1 + y)).Ok := by
  refine ⟨s0, s1, c0, c1, du, nofun, nofun, fun _ => ⟨?_, ?_, ?_, ?_⟩⟩ <;> dsimp only <;> omega
/-! ### a maker is made -/
theorem init_ok {p : Addr} {m : Mk} {c : Str} {S : Sto} {Q : NQ} {E} {T : TgQ Q E} (h : S p = some (.ins c [])) (k : ∀ q S', S q = none → S' p = some (.ins c (mFs m q)) → S' q = some (.lst [.int m.s, .int m.c]) → Upd [p] S S' → Q .non S') : runF sp_Maker___init__ [.ref p, m.d] S Q E T := by
  simp_arith! [sp_Maker___init__, m_Maker___init__]
  unfold Mk.d
  have t : ∀ n, n < 12 → n < 1000 := by omega
  have z0 : (0 < 1000) = True := eq_true (by decide)
  have z1 : (1 < 1000) = True := eq_true (by decide)
  have z2 : (2 < 1000) = True := eq_true (by decide)
  have z3 : (3 < 1000) = True := eq_true (by decide)
  have z4 : (4 < 1000) = True := eq_true (by decide)
  have p1 : ∀ v, putD "stock" v [] = ([("stock", v)] : List (Str × D)) := fun v => rfl
  have p2 : ∀ v a, putD "due" v [("stock", a)] = ([("stock", a), ("due", v)] : List (Str × D)) := fun v a => by simp [putD, ofString_inj]
  have p3 : ∀ v a b, putD "more" v [("stock", a), ("due", b)] = ([("stock", a), ("due", b), ("more", v)] : List (Str × D)) := fun v a b => by simp [putD, ofString_inj]
  have p4 : ∀ v a b c, putD "rest" v [("stock", a), ("due", b), ("more", c)] = ([("stock", a), ("due", b), ("more", c), ("rest", v)] : List (Str × D)) := fun v a b c => by simp [putD, ofString_inj]
  have p5 : ∀ v a b c d, putD "parts" v [("stock", a), ("due", b), ("more", c), ("rest", d)] = ([("stock", a), ("due", b), ("more", c), ("rest", d), ("parts", v)] : List (Str × D)) := fun v a b c d => by simp [putD, ofString_inj]
  simp_arith [atI_0, atI_1, atI_2, atI_3]
  intro q hq
  have qp : q ≠ p := fun z => by rw [z, h] at hq; cases hq
  have la : ∀ o, put S q o p = some (.ins c []) := fun o => by rw [put_ne (Ne.symm qp), h]
  simp_arith [la, put_same, z0, z1, z2, z3, z4, p1, p2, p3, p4, p5, atI_0, atI_1, atI_2, atI_3, cut_4]
  refine k q _ hq (put_same.trans (by unfold mFs; rfl)) ?_ ?_
  · simp only [put_ne qp, put_same]
  · exact (Upd.new hq).trans ((Upd.at (by simp)).trans ((Upd.at (by simp)).trans ((Upd.at (by simp)).trans ((Upd.at (by simp)).trans (Upd.at (by simp))))))
theorem make_up {p q : Addr} {S S' : Sto} {o : Ob} (hp : S p = none) (u : Upd [p] (put S p o) S') : Keeps S S' := by
  intro a o' _ e
  have : a ≠ p := fun z => by rw [z, hp] at e; cases e
  exact u a o' (by simpa using this) (by rw [put_ne this]; exact e)
theorem maker_of_ok {m : Mk} (o : m.Ok) {S : Sto} {Q : NQ} {E} {T : TgQ Q E} (k : ∀ p q S', S p = none → S q = none → MkAt p q m S' → Keeps S S' → Q (.ref p) S') : runF sp_maker_of [m.d] S Q E T := by
  have fin : ∀ (E' : Str → Option Addr → Sto → Prop) (x : Addr), S x = none → ∀ T', runF sp_Maker___init__ [.ref x, m.d] (put S x (.ins m.cn [])) (fun v S2 => isNonD v = true ∧ Q (.ref x) S2) E' T' := by
    intro E' x hx T'
    refine init_ok put_same fun q S' hq e1 e2 u => ⟨rfl, ?_⟩
    have qx : q ≠ x := fun z => by rw [z, put_same] at hq; cases hq
    rw [put_ne qx] at hq
    exact k x q S' hx hq ⟨e1, e2, Ne.symm qx⟩ (make_up (q := q) hx u)
  simp_arith! [sp_maker_of, m_maker_of]
  obtain ⟨kd, s, c, t, b, x, y⟩ := m
  have n1 : ("stretch" = "product") = False := by decide
  have n2 : ("sum" = "product") = False := by decide
  have n3 : ("sum" = "stretch") = False := by decide
  have e0 : atI (match (Mk.mk kd s c t b x y).d with | .tup ds => ds | _ => []) 0 = some (.str (Mk.mk kd s c t b x y).word) := by unfold Mk.d; exact atI_0 _ _
  have pl := fun (Q : NQ) (E : Str → Option Addr → Sto → Prop) (T : TgQ Q E) => is_plain_ok o (S := S) (Q := Q) (E := E) (T := T)
  cases kd with
  | pr =>
    unfold Mk.d Mk.word Mk.more at *
    unfold Mk.cn at fin
    dsimp only at *
    simp_arith [pl, Bool.not_true, atI_0, ofString_inj, decide_true]
    exact fun x hx => fin _ x hx _
  | st =>
    unfold Mk.d Mk.word Mk.more at *
    unfold Mk.cn at fin
    dsimp only at *
    simp_arith [pl, Bool.not_true, atI_0, ofString_inj, decide_true, n1, decide_false]
    exact fun x hx => fin _ x hx _
  | su =>
    unfold Mk.d Mk.word Mk.more at *
    unfold Mk.cn at fin
    dsimp only at *
    simp_arith [pl, Bool.not_true, atI_0, ofString_inj, decide_true, n2, n3, decide_false]
    exact fun x hx => fin _ x hx _
/-! ### keeps, worth -/
def Mk.ws (m : Mk) : Int := match m.k with | .su => m.x | _ => m.s + m.px
def Mk.wc (m : Mk) : Int := match m.k with | .su => m.y | _ => m.c + m.py
def Mk.kp (m : Mk) : Int := match m.k with | .su => m.x * m.c + m.y * m.s | _ => (m.s + m.px) * (m.c + m.py)
theorem Mk.Ok.w1 {m : Mk} (h : m.Ok) : 1 ≤ m.ws ∧ 1 ≤ m.wc := by
  obtain ⟨s0, s1, c0, c1, du, hp, hs, hu⟩ := h
  obtain ⟨k, s, c, t, b, x, y⟩ := m
  cases k
  · have := hp rfl
    simp only [Mk.ws, Mk.wc, Mk.px, Mk.py] at *; omega
  · have := hs rfl
    simp only [Mk.ws, Mk.wc, Mk.px, Mk.py] at *; omega
  · have := hu rfl
    simp only [Mk.ws, Mk.wc, Mk.px, Mk.py] at *; omega
theorem Asks.got {m : Mk} {i n : Int} (h : Asks m i n) : 0 ≤ m.got i n ∧ (m.k ≠ .su → m.got i n < m.gr (1 - i)) := by
  have g := h.ok.gr
  have d := h.den
  obtain ⟨t0, b1, b2, tb⟩ := h.ok.due
  have hs := h.sd
  have key : ∀ k, m.k = k → 0 ≤ m.got i n ∧ (m.k ≠ .su → m.got i n < m.gr (1 - i)) := by
    intro k hk
    have w : k ≠ .su → 1 ≤ m.gr i ∧ 1 ≤ m.gr (1 - i) := by
      intro z
      have w := h.ok.w1
      have g1 : m.ws = m.s + m.px := by unfold Mk.ws; rw [hk]; cases k <;> first | rfl | exact absurd rfl z
      have g2 : m.wc = m.c + m.py := by unfold Mk.wc; rw [hk]; cases k <;> first | rfl | exact absurd rfl z
      rw [g1, g2] at w
      unfold Mk.gr
      rcases hs with rfl | rfl
      · rw [if_pos rfl, if_neg (by decide)]; exact w
      · rw [if_neg (by decide), if_pos (by decide)]; exact ⟨w.2, w.1⟩
    have pd : k ≠ .su → m.got i n = m.gr (1 - i) * (n * (m.b - m.t)) / (m.gr i * m.b + n * (m.b - m.t)) → 0 ≤ m.got i n ∧ (m.k ≠ .su → m.got i n < m.gr (1 - i)) := by
      intro z e
      obtain ⟨w1, w2⟩ := w z
      have d0 : 1 * 1 ≤ m.gr i * m.b := Int.mul_le_mul w1 b1 (by decide) (by omega)
      rw [e]
      exact ⟨share_nn (by omega) (by omega) d.2.2.1, fun _ => share_lt w2 (by omega) d.2.2.1⟩
    cases k with
    | pr => exact pd (by intro z; cases z) (by unfold Mk.got; rw [hk])
    | st => exact pd (by intro z; cases z) (by unfold Mk.got; rw [hk])
    | su =>
      refine ⟨?_, fun z => absurd hk z⟩
      obtain ⟨x0, x1, y0, y1⟩ := h.ok.su hk
      have r : ∀ i, 0 ≤ m.rt i := by intro i; unfold Mk.rt; split <;> omega
      have e4 : m.got i n = n * (m.b - m.t) * m.rt (1 - i) / (m.b * m.rt i) := by unfold Mk.got; rw [hk]
      rw [e4]
      exact Int.ediv_nonneg (Int.mul_nonneg d.2.2.1 (r _)) (Int.mul_nonneg (by omega) (r _))
  exact key _ rfl
theorem Asks.comes {m : Mk} {i n : Int} (h : Asks m i n) : 0 ≤ m.comes i n ∧ m.comes i n ≤ m.stk (1 - i) ∧ (m.k ≠ .su → m.comes i n < m.gr (1 - i)) := by
  have g := h.got
  have s0 := h.ok.s0; have c0 := h.ok.c0
  have st : 0 ≤ m.stk (1 - i) := by unfold Mk.stk; split <;> omega
  unfold Mk.comes mn
  split
  · refine ⟨st, Int.le_refl _, fun z => ?_⟩
    have := g.2 z; omega
  · exact ⟨g.1, by omega, g.2⟩
theorem Asks.ok' {m : Mk} {i n : Int} (h : Asks m i n) : (m.deal i n).Ok := by
  have g := h.comes
  have n1 := h.n1
  have tp := h.top
  obtain ⟨s0, s1, c0, c1, du, hp, hs, hu⟩ := h.ok
  have sd := h.sd
  have st0 : m.stk 0 = m.s := rfl
  have st1 : m.stk 1 = m.c := rfl
  have gr0 : m.gr 0 = m.s + m.px := rfl
  have gr1 : m.gr 1 = m.c + m.py := rfl
  rcases sd with rfl | rfl
  · have e : m.deal 0 n = { m with s := m.s + n, c := m.c - m.comes 0 n } := rfl
    have j : (1 : Int) - 0 = 1 := by decide
    rw [j, st1, gr1] at g
    rw [st0] at tp
    rw [e]
    refine ⟨?_, ?_, ?_, ?_, du, fun hk => ?_, fun hk => ?_, hu⟩ <;> dsimp only at *
    · omega
    · omega
    · omega
    · omega
    · have g3 := g.2.2 (by rw [hk]; intro z; cases z)
      have e2 : m.py = 0 := by unfold Mk.py; rw [hk]
      have := hp hk; omega
    · have g3 := g.2.2 (by rw [hk]; intro z; cases z)
      have e2 : m.py = m.y := by unfold Mk.py; rw [hk]
      have := hs hk; omega
  · have e : m.deal 1 n = { m with c := m.c + n, s := m.s - m.comes 1 n } := rfl
    have j : (1 : Int) - 1 = 0 := by decide
    rw [j, st0, gr0] at g
    rw [st1] at tp
    rw [e]
    refine ⟨?_, ?_, ?_, ?_, du, fun hk => ?_, fun hk => ?_, hu⟩ <;> dsimp only at *
    · omega
    · omega
    · omega
    · omega
    · have g3 := g.2.2 (by rw [hk]; intro z; cases z)
      have e2 : m.px = 0 := by unfold Mk.px; rw [hk]
      have := hp hk; omega
    · have g3 := g.2.2 (by rw [hk]; intro z; cases z)
      have e2 : m.px = m.x := by unfold Mk.px; rw [hk]
      have := hs hk; omega
theorem Mk.Ok.sb {m : Mk} (o : m.Ok) (i : Int) : 0 ≤ m.stk i ∧ m.stk i ≤ 1000000000000 := by
  have := o.s0; have := o.s1; have := o.c0; have := o.c1
  unfold Mk.stk; split <;> omega
/-! ### short words -/
theorem at_wares {i : Int} (h : Sd i) : atI (c_WARES.map D.str) i = some (.str (wr i)) := by rcases h with rfl | rfl <;> rfl
theorem md (m : Mk) : m.d = .tup (.str m.word :: .int m.s :: .int m.c :: .tup [.int m.t, .int m.b] :: m.more) := id rfl
theorem at_1s {m : Mk} {i : Int} {w : D} {r : List D} (h : Sd i) : atI (w :: .int m.s :: .int m.c :: r) (1 + i) = some (.int (m.stk i)) := by
  rcases h with rfl | rfl
  · exact atI_1 _ _ _
  · exact atI_2 _ _ _ _
theorem at_2s {m : Mk} {i : Int} {w : D} {r : List D} (h : Sd i) : atI (w :: .int m.s :: .int m.c :: r) (2 - i) = some (.int (m.stk (1 - i))) := by
  rcases h with rfl | rfl
  · exact atI_2 _ _ _ _
  · exact atI_1 _ _ _
theorem Mk.Ok.g1 {m : Mk} (h : m.Ok) (hk : m.k ≠ .su) (i : Int) : 1 ≤ m.gr i := by
  have w := h.w1
  have a : m.ws = m.s + m.px := by unfold Mk.ws; split <;> first | rfl | (rename_i z; exact absurd z hk)
  have b : m.wc = m.c + m.py := by unfold Mk.wc; split <;> first | rfl | (rename_i z; exact absurd z hk)
  unfold Mk.gr
  split <;> omega
theorem stk_set {m : Mk} {i n : Int} (sd : Sd i) : (m.deal i n).stk i = m.stk i + n ∧ (m.deal i n).stk (1 - i) = m.stk (1 - i) - m.comes i n := by
  rcases sd with rfl | rfl <;> exact ⟨rfl, rfl⟩
/-! ### what the law reckons -/
/-! ### a deal that is too much -/
/-! #### worth -/
theorem ltN_mod {x y : Nat} : ((x : Int) % (y : Int)) = ((x % y : Nat) : Int) := rfl
theorem least_loop (Z : NEnds) (a b : Option D) (S : Sto) : ∀ (y x : Nat) (r : Option D), (∀ r', Z.nx [a, b, some (.int (Nat.gcd x y : Nat)), some (.int 0), r'] S) → ∃ n, whileN (mTst (mOp nGt (mVar 3) (mC (.int 0)))) (sSeq (sSet 4 (mOp nMod (mVar 2) (mVar 3))) (sSeq (sSet 2 (mVar 3)) (sSet 3 (mVar 4)))) Z n [a, b, some (.int x), some (.int y), r] S := by
  intro y
  induction y using Nat.strongRecOn with
  | _ y ih =>
    intro x r h
    by_cases hy : y = 0
    · subst hy
      refine ⟨1, ?_⟩
      have e : decide ((0 : Int) < ((0 : Nat) : Int)) = false := by decide
      rw [u_whileN]
      simp_arith [e]
      have := h r
      rwa [Nat.gcd_zero_right] at this
    · have y0 : 0 < y := Nat.pos_of_ne_zero hy
      obtain ⟨n, hn⟩ := ih (x % y) (Nat.mod_lt _ y0) y (some (.int ((x % y : Nat) : Int))) (fun r' => by
        have e : Nat.gcd y (x % y) = Nat.gcd x y := by rw [Nat.gcd_comm y, ← Nat.gcd_rec, Nat.gcd_comm]
        rw [e]; exact h r')
      refine ⟨n + 1, ?_⟩
      have e : decide ((0 : Int) < (y : Int)) = true := decide_eq_true (by omega)
      have e2 : (0 : Int) < (y : Int) := by omega
      rw [u_whileN]
      simp_arith [e, e2]
      exact hn
theorem nat_of {i : Int} (h : 0 ≤ i) : ∃ n : Nat, i = n := ⟨i.toNat, by omega⟩
theorem Mk.Ok.w2 {m : Mk} (h : m.Ok) : m.ws < 2 ^ 60 ∧ m.wc < 2 ^ 60 := by
  obtain ⟨s0, s1, c0, c1, du, hp, hs, hu⟩ := h
  obtain ⟨k, s, c, t, b, x, y⟩ := m
  cases k
  · simp only [Mk.ws, Mk.wc, Mk.px, Mk.py] at *; omega
  · have := hs rfl
    simp only [Mk.ws, Mk.wc, Mk.px, Mk.py] at *; omega
  · have := hu rfl
    simp only [Mk.ws, Mk.wc, Mk.px, Mk.py] at *; omega
def Mk.g (m : Mk) : Nat := Nat.gcd m.wc.toNat m.ws.toNat
theorem low_gcd {x y : Int} (x1 : 1 ≤ x) (y1 : 1 ≤ y) : ∃ u v : Nat, x / (Nat.gcd x.toNat y.toNat : Nat) = (u : Int) ∧ y / (Nat.gcd x.toNat y.toNat : Nat) = (v : Int) ∧ Nat.gcd u v = 1 ∧ (u : Int) * y = x * v ∧ 0 < v := by
  obtain ⟨n, rfl⟩ := nat_of (i := x) (by omega)
  obtain ⟨k, rfl⟩ := nat_of (i := y) (by omega)
  simp only [Int.toNat_natCast]
  have g0 : 0 < Nat.gcd n k := Nat.gcd_pos_of_pos_right _ (by omega)
  have d1 := Nat.gcd_dvd_left n k
  have d2 := Nat.gcd_dvd_right n k
  obtain ⟨u, hu⟩ := d1
  obtain ⟨v, hv⟩ := d2
  have e1 : n / Nat.gcd n k = u := by
    have := Nat.mul_div_cancel_left u g0
    rwa [← hu] at this
  have e2 : k / Nat.gcd n k = v := by
    have := Nat.mul_div_cancel_left v g0
    rwa [← hv] at this
  have e3 : Nat.gcd n k = Nat.gcd n k * Nat.gcd u v := by
    rw [← Nat.gcd_mul_left, ← hu, ← hv]
  have e4 : Nat.gcd u v = 1 := Nat.eq_of_mul_eq_mul_left g0 (by rw [← e3, Nat.mul_one])
  refine ⟨u, v, by rw [← e1]; rfl, by rw [← e2]; rfl, e4, ?_, Nat.pos_of_ne_zero fun z => by rw [z, Nat.mul_zero] at hv; omega⟩
  have : u * k = n * v := by
    have h1 : u * (Nat.gcd n k * v) = Nat.gcd n k * u * v := by rw [Nat.mul_left_comm, Nat.mul_assoc]
    rwa [← hu, ← hv] at h1
  exact_mod_cast this
/-! ### what is kept -/
theorem keep_pd {A B b r n out : Int} (hA : 0 ≤ A) (rb : r ≤ b) (hr : 1 ≤ r) (ho : 0 ≤ out) (h : out * (A * b + n * r) ≤ B * (n * r)) : out * (A + n) ≤ B * n := by
  have p1 : A * r ≤ A * b := Int.mul_le_mul_of_nonneg_left rb hA
  have p2 : out * (A * r + n * r) ≤ out * (A * b + n * r) := Int.mul_le_mul_of_nonneg_left (by omega) ho
  have p3 : out * (A * r + n * r) = (out * (A + n)) * r := by rw [← Int.add_mul, ← Int.mul_assoc]
  have p4 : B * (n * r) = (B * n) * r := (Int.mul_assoc _ _ _).symm
  rw [p3] at p2; rw [p4] at h
  exact Int.le_of_mul_le_mul_right (Int.le_trans p2 h) (by omega)
theorem keep_pd2 {A B n out : Int} (h : out * (A + n) ≤ B * n) : A * B ≤ (A + n) * (B - out) := by
  have e1 : (A + n) * (B - out) = A * B + n * B - (A + n) * out := by rw [Int.mul_sub, Int.add_mul]
  rw [e1, Int.mul_comm n B, Int.mul_comm (A + n) out]
  omega
theorem keep_su {b r n out R R' : Int} (rb : r ≤ b) (hb : 1 ≤ b) (hn : 1 ≤ n) (hR' : 1 ≤ R') (h : out * (b * R) ≤ n * r * R') : out * R ≤ n * R' := by
  have p1 : n * r ≤ n * b := Int.mul_le_mul_of_nonneg_left rb (by omega)
  have p2 : n * r * R' ≤ n * b * R' := Int.mul_le_mul_of_nonneg_right p1 (by omega)
  have p3 : out * (b * R) = (out * R) * b := by rw [Int.mul_comm b R, Int.mul_assoc]
  have p4 : n * b * R' = (n * R') * b := by rw [Int.mul_assoc, Int.mul_comm b R', Int.mul_assoc]
  rw [p3] at h; rw [p4] at p2
  exact Int.le_of_mul_le_mul_right (Int.le_trans h p2) (by omega)
theorem comes_le {m : Mk} {i n : Int} : m.comes i n ≤ m.got i n := by unfold Mk.comes mn; split <;> omega
/-- by the rule -/
theorem Asks.rule_pd {m : Mk} {i n : Int} (a : Asks m i n) (hk : m.k ≠ .su) : m.comes i n * (m.gr i + n) ≤ m.gr (1 - i) * n := by
  obtain ⟨t0, b1, b2, tb⟩ := a.ok.due
  have d := a.den
  have c := a.comes
  have e4 : m.got i n = m.gr (1 - i) * (n * (m.b - m.t)) / (m.gr i * m.b + n * (m.b - m.t)) := by unfold Mk.got; split <;> first | rfl | (rename_i z; exact absurd z hk)
  have l := @comes_le m i n
  rw [e4] at l
  refine keep_pd (r := m.b - m.t) (b := m.b) (a.ok.gr i).1 (by omega) (by omega) c.1 ?_
  exact (Int.le_ediv_iff_mul_le d.1).mp l
theorem Asks.rule_su {m : Mk} {i n : Int} (a : Asks m i n) (hk : m.k = .su) : m.comes i n * m.rt i ≤ n * m.rt (1 - i) := by
  obtain ⟨t0, b1, b2, tb⟩ := a.ok.due
  obtain ⟨x0, x1, y0, y1⟩ := a.ok.su hk
  have r : ∀ i, 1 ≤ m.rt i := by intro i; unfold Mk.rt; split <;> omega
  have e4 : m.got i n = n * (m.b - m.t) * m.rt (1 - i) / (m.b * m.rt i) := by unfold Mk.got; rw [hk]
  have l := @comes_le m i n
  rw [e4] at l
  refine keep_su (r := m.b - m.t) (b := m.b) (by omega) b1 a.n1 (r _) ?_
  exact (Int.le_ediv_iff_mul_le (Int.mul_pos (by omega) (by have := r i; omega))).mp l
theorem kp_su {m : Mk} (h : m.k = .su) : m.kp = m.x * m.c + m.y * m.s := by unfold Mk.kp; rw [h]
theorem kp_pd {m : Mk} (h : m.k ≠ .su) : m.kp = (m.s + m.px) * (m.c + m.py) := by unfold Mk.kp; split <;> first | rfl | (rename_i z; exact absurd z h)
theorem deal_0 {m : Mk} {n : Int} : m.deal 0 n = { m with s := m.s + n, c := m.c - m.comes 0 n } := rfl
theorem deal_1 {m : Mk} {n : Int} : m.deal 1 n = { m with c := m.c + n, s := m.s - m.comes 1 n } := rfl
theorem deal_k {m : Mk} {i n : Int} : (m.deal i n).k = m.k := by unfold Mk.deal; split <;> rfl
theorem Asks.keeps {m : Mk} {i n : Int} (a : Asks m i n) : m.kp ≤ (m.deal i n).kp := by
  by_cases hk : m.k = .su
  · have h := a.rule_su hk
    rw [kp_su hk, kp_su (by rw [deal_k, hk])]
    rcases a.sd with rfl | rfl
    · have j : (1 : Int) - 0 = 1 := by decide
      rw [j] at h
      have r0 : m.rt 0 = m.x := rfl
      have r1 : m.rt 1 = m.y := rfl
      rw [r0, r1] at h
      rw [deal_0]
      dsimp only
      rw [Int.mul_sub, Int.mul_add, Int.mul_comm m.x (m.comes 0 n), Int.mul_comm m.y n]
      omega
    · have j : (1 : Int) - 1 = 0 := by decide
      rw [j] at h
      have r0 : m.rt 0 = m.x := rfl
      have r1 : m.rt 1 = m.y := rfl
      rw [r0, r1] at h
      rw [deal_1]
      dsimp only
      rw [Int.mul_sub, Int.mul_add, Int.mul_comm m.y (m.comes 1 n), Int.mul_comm m.x n]
      omega
  · have h := a.rule_pd hk
    rw [kp_pd hk, kp_pd (by rw [deal_k]; exact hk)]
    have g0 : m.gr 0 = m.s + m.px := rfl
    have g1 : m.gr 1 = m.c + m.py := rfl
    rcases a.sd with rfl | rfl
    · have j : (1 : Int) - 0 = 1 := by decide
      rw [j, g0, g1] at h
      have q := keep_pd2 h
      have e1 : (m.deal 0 n).s + (m.deal 0 n).px = m.s + m.px + n := by rw [deal_0]; unfold Mk.px; dsimp only; omega
      have e2 : (m.deal 0 n).c + (m.deal 0 n).py = m.c + m.py - m.comes 0 n := by rw [deal_0]; unfold Mk.py; dsimp only; omega
      rw [e1, e2]; exact q
    · have j : (1 : Int) - 1 = 0 := by decide
      rw [j, g0, g1] at h
      have q := keep_pd2 h
      have e1 : (m.deal 1 n).s + (m.deal 1 n).px = m.s + m.px - m.comes 1 n := by rw [deal_1]; unfold Mk.px; dsimp only; omega
      have e2 : (m.deal 1 n).c + (m.deal 1 n).py = m.c + m.py + n := by rw [deal_1]; unfold Mk.py; dsimp only; omega
      rw [e1, e2, Int.mul_comm (m.s + m.px - m.comes 1 n), Int.mul_comm (m.s + m.px)]; exact q
/-- what never changes -/
structure Same (m m' : Mk) : Prop where
  k : m'.k = m.k
  t : m'.t = m.t
  b : m'.b = m.b
  x : m'.x = m.x
  y : m'.y = m.y
theorem Same.refl (m : Mk) : Same m m := ⟨rfl, rfl, rfl, rfl, rfl⟩
theorem Same.trans {m m1 m2 : Mk} (a : Same m m1) (b : Same m1 m2) : Same m m2 := ⟨b.k.trans a.k, b.t.trans a.t, b.b.trans a.b, b.x.trans a.x, b.y.trans a.y⟩
theorem Same.deal {m : Mk} {i n : Int} : Same m (m.deal i n) := by unfold Mk.deal; split <;> exact ⟨rfl, rfl, rfl, rfl, rfl⟩
theorem Same.px {m m' : Mk} (h : Same m m') : m'.px = m.px := by unfold Mk.px; rw [h.k, h.x]
theorem Same.py {m m' : Mk} (h : Same m m') : m'.py = m.py := by unfold Mk.py; rw [h.k, h.y]
theorem mul_strict {a b c d : Int} (h1 : a ≤ c) (h2 : b ≤ d) (a0 : 1 ≤ a) (b0 : 1 ≤ b) (h : c * d ≤ a * b) : a = c ∧ b = d := by
  have p1 : a * b ≤ c * b := Int.mul_le_mul_of_nonneg_right h1 (by omega)
  have p2 : c * b ≤ c * d := Int.mul_le_mul_of_nonneg_left h2 (by omega)
  have e1 : a * b = c * b := by omega
  have e2 : c * b = c * d := by omega
  exact ⟨Int.eq_of_mul_eq_mul_right (by omega) e1, Int.eq_of_mul_eq_mul_left (by omega) e2⟩
theorem nobody {m0 m : Mk} (h : Same m0 m) (o0 : m0.Ok) (o : m.Ok) (k : m0.kp ≤ m.kp) (hs : m.s ≤ m0.s) (hc : m.c ≤ m0.c) : m.s = m0.s ∧ m.c = m0.c := by
  by_cases hk : m0.k = .su
  · have hk' : m.k = .su := h.k.trans hk
    rw [kp_su hk, kp_su hk', h.x, h.y] at k
    obtain ⟨x0, x1, y0, y1⟩ := o0.su hk
    have p1 : m0.x * m.c ≤ m0.x * m0.c := Int.mul_le_mul_of_nonneg_left hc (by omega)
    have p2 : m0.y * m.s ≤ m0.y * m0.s := Int.mul_le_mul_of_nonneg_left hs (by omega)
    have e1 : m0.x * m.c = m0.x * m0.c := by omega
    have e2 : m0.y * m.s = m0.y * m0.s := by omega
    exact ⟨Int.eq_of_mul_eq_mul_left (by omega) e2, Int.eq_of_mul_eq_mul_left (by omega) e1⟩
  · have hk' : m.k ≠ .su := by rw [h.k]; exact hk
    rw [kp_pd hk, kp_pd hk', h.px, h.py] at k
    have g0 := o.g1 hk' 0; have g1 := o.g1 hk' 1
    have r0 : m.gr 0 = m.s + m.px := rfl
    have r1 : m.gr 1 = m.c + m.py := rfl
    rw [r0, h.px] at g0; rw [r1, h.py] at g1
    obtain ⟨a, b⟩ := mul_strict (a := m.s + m0.px) (b := m.c + m0.py) (c := m0.s + m0.px) (d := m0.c + m0.py) (by omega) (by omega) g0 g1 k
    exact ⟨by omega, by omega⟩
/-- the worth of salt falls where cloth comes in .. -/
theorem frac_le {u v u' v' c s c' s' : Int} (hs : 1 ≤ s) (hs' : 1 ≤ s') (hv : 0 < v) (hv' : 0 < v') (e : u * s = c * v) (e' : u' * s' = c' * v') (h : c' * s ≤ c * s') : u' * v ≤ u * v' := by
  have p : (c' * s) * (v * v') ≤ (c * s') * (v * v') := Int.mul_le_mul_of_nonneg_right h (Int.mul_nonneg (by omega) (by omega))
  have e1 : (c' * s) * (v * v') = (u' * v) * (s * s') := by
    calc (c' * s) * (v * v') = (c' * v') * (s * v) := by ac_rfl
      _ = (u' * s') * (s * v) := by rw [e']
      _ = (u' * v) * (s * s') := by ac_rfl
  have e2 : (c * s') * (v * v') = (u * v') * (s * s') := by
    calc (c * s') * (v * v') = (c * v) * (s' * v') := by ac_rfl
      _ = (u * s) * (s' * v') := by rw [e]
      _ = (u * v') * (s * s') := by ac_rfl
  rw [e1, e2] at p
  exact Int.le_of_mul_le_mul_right p (Int.mul_pos (by omega) (by omega))
theorem ws_su {m : Mk} (h : m.k = .su) : m.ws = m.x ∧ m.wc = m.y := by unfold Mk.ws Mk.wc; rw [h]; exact ⟨rfl, rfl⟩
theorem ws_pd {m : Mk} (h : m.k ≠ .su) : m.ws = m.s + m.px ∧ m.wc = m.c + m.py := by
  unfold Mk.ws Mk.wc
  split
  · rename_i z; exact absurd z h
  · exact ⟨rfl, rfl⟩
theorem Asks.goes {m : Mk} {i n : Int} (a : Asks m i n) : if i = 0 then (m.deal i n).wc * m.ws ≤ m.wc * (m.deal i n).ws else m.wc * (m.deal i n).ws ≤ (m.deal i n).wc * m.ws := by
  have n1 := a.n1
  have c := a.comes
  have w := a.ok.w1
  have w' := a.ok'.w1
  by_cases hk : m.k = .su
  · have e := ws_su hk
    have e' := ws_su (m := m.deal i n) (by rw [deal_k, hk])
    have s := @Same.deal m i n
    rw [e.1, e.2, e'.1, e'.2, s.x, s.y]
    split <;> exact Int.le_refl _
  · have e := ws_pd hk
    have e' := ws_pd (m := m.deal i n) (by rw [deal_k]; exact hk)
    have s := @Same.deal m i n
    rw [e.1, e.2] at w ⊢
    rw [e'.1, e'.2] at w' ⊢
    rcases a.sd with rfl | rfl
    · rw [if_pos rfl]
      have f1 : (m.deal 0 n).s = m.s + n := rfl
      have f2 : (m.deal 0 n).c = m.c - m.comes 0 n := rfl
      rw [s.px, s.py, f1, f2] at w' ⊢
      have p1 : (m.c - m.comes 0 n + m.py) * (m.s + m.px) ≤ (m.c + m.py) * (m.s + m.px) := Int.mul_le_mul_of_nonneg_right (by omega) (by omega)
      have p2 : (m.c + m.py) * (m.s + m.px) ≤ (m.c + m.py) * (m.s + n + m.px) := Int.mul_le_mul_of_nonneg_left (by omega) (by omega)
      omega
    · rw [if_neg (by decide)]
      have f1 : (m.deal 1 n).s = m.s - m.comes 1 n := rfl
      have f2 : (m.deal 1 n).c = m.c + n := rfl
      rw [s.px, s.py, f1, f2] at w' ⊢
      have p1 : (m.c + m.py) * (m.s - m.comes 1 n + m.px) ≤ (m.c + m.py) * (m.s + m.px) := Int.mul_le_mul_of_nonneg_left (by omega) (by omega)
      have p2 : (m.c + m.py) * (m.s + m.px) ≤ (m.c + n + m.py) * (m.s + m.px) := Int.mul_le_mul_of_nonneg_right (by omega) (by omega)
      omega
/-! ### a twin -/
/-! ### a deal that may be refused -/
theorem ct : catchOf CL "TooMuch" "MartError" = some true := by decide
/-! ### the least count -/
theorem ceil_le {t b n : Int} (h : 0 < b) : (t + b - 1) / b ≤ n ↔ t ≤ n * b := by
  have q : (t + b - 1) / b < n + 1 ↔ t + b - 1 < (n + 1) * b := Int.ediv_lt_iff_lt_mul h
  have e : (n + 1) * b = n * b + b := by rw [Int.add_mul, Int.one_mul]
  rw [e] at q
  omega
def cl (t b : Int) : Int := (t + b - 1) / b
def Mk.want (m : Mk) (i w : Int) : Option Int := match m.k with
  | .su => some (cl (w * m.b * m.rt i) ((m.b - m.t) * m.rt (1 - i)))
  | _ => if m.gr (1 - i) ≤ w then none else some (mx 1 (cl (w * m.gr i * m.b) ((m.b - m.t) * (m.gr (1 - i) - w))))
def Mk.least (m : Mk) (i w : Int) : Option Int := if m.stk (1 - i) < w then none else match m.want i w with
  | none => none
  | some f => if m.stk i + f ≤ 1000000000000 then some f else none
def optD : Option Int → D
  | none => .non
  | some f => .int f
theorem want_pd {w g0 g1 b r n : Int} (hw : 1 ≤ w) (h0 : 1 ≤ g0) (hb : 1 ≤ b) (hr : 1 ≤ r) (hn : 1 ≤ n) : w ≤ g1 * (n * r) / (g0 * b + n * r) ↔ ¬ g1 ≤ w ∧ mx 1 (cl (w * g0 * b) (r * (g1 - w))) ≤ n := by
  have p1 : 1 * 1 ≤ n * r := Int.mul_le_mul hn hr (by decide) (by omega)
  have p2 : 1 * 1 ≤ g0 * b := Int.mul_le_mul h0 hb (by decide) (by omega)
  have p3 : 1 * 1 ≤ w * (g0 * b) := Int.mul_le_mul hw (by omega) (by decide) (by omega)
  rw [Int.le_ediv_iff_mul_le (by omega), Int.mul_add]
  by_cases h : g1 ≤ w
  · have : g1 * (n * r) ≤ w * (n * r) := Int.mul_le_mul_of_nonneg_right h (by omega)
    constructor
    · intro z; omega
    · intro z; exact absurd h z.1
  · have q : 0 < r * (g1 - w) := Int.mul_pos (by omega) (by omega)
    have c := ceil_le (t := w * g0 * b) (n := n) q
    have e1 : w * g0 * b = w * (g0 * b) := Int.mul_assoc _ _ _
    have e2 : n * (r * (g1 - w)) = g1 * (n * r) - w * (n * r) := by rw [← Int.mul_assoc, Int.mul_comm, Int.sub_mul]
    have e3 : mx 1 (cl (w * g0 * b) (r * (g1 - w))) ≤ n ↔ cl (w * g0 * b) (r * (g1 - w)) ≤ n := by unfold mx; split <;> omega
    rw [e3]
    unfold cl
    rw [c, e1, e2]
    constructor
    · intro z; exact ⟨h, by omega⟩
    · intro z; omega
theorem want_iff {m : Mk} {i n w : Int} (a : Ask0 m i n) (hw : 1 ≤ w) : w ≤ m.got i n ↔ ∃ f, m.want i w = some f ∧ f ≤ n := by
  obtain ⟨t0, b1, b2, tb⟩ := a.ok.due
  have n1 := a.n1
  have pd : m.k ≠ .su → (w ≤ m.gr (1 - i) * (n * (m.b - m.t)) / (m.gr i * m.b + n * (m.b - m.t)) ↔ ∃ f, (if m.gr (1 - i) ≤ w then none else some (mx 1 (cl (w * m.gr i * m.b) ((m.b - m.t) * (m.gr (1 - i) - w))))) = some f ∧ f ≤ n) := by
    intro hk
    rw [want_pd hw (a.ok.g1 hk i) b1 (by omega) n1]
    by_cases h : m.gr (1 - i) ≤ w
    · rw [if_pos h]
      exact ⟨fun z => absurd h z.1, fun ⟨f, e, _⟩ => by cases e⟩
    · rw [if_neg h]
      exact ⟨fun z => ⟨_, rfl, z.2⟩, fun ⟨f, e, z⟩ => ⟨h, by cases e; exact z⟩⟩
  cases hk : m.k with
  | pr =>
    unfold Mk.got Mk.want
    rw [hk]
    exact pd (by rw [hk]; intro z; cases z)
  | st =>
    unfold Mk.got Mk.want
    rw [hk]
    exact pd (by rw [hk]; intro z; cases z)
  | su =>
    unfold Mk.got Mk.want
    rw [hk]
    dsimp only
    obtain ⟨x0, x1, y0, y1⟩ := a.ok.su hk
    have r : ∀ i, 1 ≤ m.rt i := by intro i; unfold Mk.rt; split <;> omega
    have p1 : 0 < m.b * m.rt i := Int.mul_pos (by omega) (by have := r i; omega)
    have p2 : 0 < (m.b - m.t) * m.rt (1 - i) := Int.mul_pos (by omega) (by have := r (1 - i); omega)
    have c := ceil_le (t := w * m.b * m.rt i) (n := n) p2
    rw [Int.le_ediv_iff_mul_le p1]
    have e1 : w * (m.b * m.rt i) = w * m.b * m.rt i := (Int.mul_assoc _ _ _).symm
    have e2 : n * (m.b - m.t) * m.rt (1 - i) = n * ((m.b - m.t) * m.rt (1 - i)) := Int.mul_assoc _ _ _
    rw [e1, e2]
    constructor
    · intro z; exact ⟨_, rfl, by unfold cl; exact c.mpr z⟩
    · rintro ⟨f, e, z⟩
      cases e
      exact c.mp z
theorem want_pos {m : Mk} {i w f : Int} (o : m.Ok) (hw : 1 ≤ w) (e : m.want i w = some f) : 1 ≤ f := by
  unfold Mk.want at e
  have key : ∀ c, 1 ≤ mx 1 c := by intro c; unfold mx; split <;> omega
  split at e
  · rename_i hk
    cases e
    obtain ⟨t0, b1, b2, tb⟩ := o.due
    obtain ⟨x0, x1, y0, y1⟩ := o.su hk
    have r : ∀ i, 1 ≤ m.rt i := by intro i; unfold Mk.rt; split <;> omega
    have p2 : 0 < (m.b - m.t) * m.rt (1 - i) := Int.mul_pos (by omega) (by have := r (1 - i); omega)
    have p3 : 0 < w * m.b * m.rt i := Int.mul_pos (Int.mul_pos (by omega) (by omega)) (by have := r i; omega)
    have c := ceil_le (t := w * m.b * m.rt i) (n := 0) p2
    rw [Int.zero_mul] at c
    unfold cl
    omega
  · split at e
    · cases e
    · cases e; exact key _
theorem comes_iff {m : Mk} {i n w : Int} (a : Ask0 m i n) (hw : 1 ≤ w) : w ≤ m.comes i n ↔ w ≤ m.stk (1 - i) ∧ ∃ f, m.want i w = some f ∧ f ≤ n := by
  rw [← want_iff a hw]
  unfold Mk.comes mn
  split <;> omega
theorem least_some {m : Mk} {i w f : Int} (o : m.Ok) (sd : Sd i) (hw : 1 ≤ w) (e : m.least i w = some f) : 1 ≤ f ∧ m.stk i + f ≤ 1000000000000 ∧ w ≤ m.comes i f ∧ (f ≠ 1 → m.comes i (f - 1) < w) := by
  unfold Mk.least at e
  have sb := o.sb i
  split at e
  · cases e
  · rename_i h1
    split at e
    · cases e
    · rename_i g eg
      split at e
      · rename_i h2
        cases e
        have f1 := want_pos o hw eg
        refine ⟨f1, h2, (comes_iff ⟨o, sd, f1, by omega⟩ hw).mpr ⟨by omega, _, eg, Int.le_refl _⟩, fun z => ?_⟩
        have := (comes_iff (m := m) (i := i) (n := f - 1) (w := w) ⟨o, sd, by omega, by omega⟩ hw).mp
        refine Int.not_le.mp fun y => ?_
        obtain ⟨_, f', e', l⟩ := this y
        rw [eg] at e'; cases e'; omega
      · cases e
theorem least_none {m : Mk} {i w n : Int} (o : m.Ok) (sd : Sd i) (hw : 1 ≤ w) (e : m.least i w = none) (hn : 1 ≤ n) (ht : m.stk i + n ≤ 1000000000000) : m.comes i n < w := by
  have sb := o.sb i
  refine Int.not_le.mp fun y => ?_
  obtain ⟨h1, f, h2, h3⟩ := (comes_iff ⟨o, sd, hn, by omega⟩ hw).mp y
  unfold Mk.least at e
  rw [if_neg (by omega), h2] at e
  dsimp only at e
  rw [if_pos (by omega)] at e
  cases e
/-! ### parted deals -/
def Mk.pp (m : Mk) (i : Int) : Int := if i = 0 then m.px else m.py
theorem gr_stk {m : Mk} {i : Int} : m.gr i = m.stk i + m.pp i := by unfold Mk.gr Mk.stk Mk.pp; split <;> rfl
theorem Same.pp {m m' : Mk} (h : Same m m') (i : Int) : m'.pp i = m.pp i := by unfold Mk.pp; rw [h.px, h.py]
theorem Same.rt {m m' : Mk} (h : Same m m') (i : Int) : m'.rt i = m.rt i := by unfold Mk.rt; rw [h.x, h.y]
structure Pd (m mt : Mk) (i t : Int) : Prop where
  o : mt.Ok
  s : Same m mt
  st : mt.stk i = m.stk i + t
  le : mt.stk (1 - i) ≤ m.stk (1 - i)
  su : m.k = .su → (m.stk (1 - i) - mt.stk (1 - i)) * (m.b * m.rt i) ≤ t * (m.b - m.t) * m.rt (1 - i)
  pd : m.k ≠ .su → m.gr (1 - i) * (m.gr i * m.b) ≤ mt.gr (1 - i) * (m.gr i * m.b + t * (m.b - m.t))
theorem Pd.refl {m : Mk} {i : Int} (o : m.Ok) : Pd m m i 0 := by
  refine ⟨o, .refl _, by omega, Int.le_refl _, fun _ => ?_, fun _ => ?_⟩
  · rw [Int.sub_self, Int.zero_mul, Int.zero_mul, Int.zero_mul]; exact Int.le_refl _
  · rw [Int.zero_mul, Int.add_zero]; exact Int.le_refl _
theorem got_su {m : Mk} {i n : Int} (hk : m.k = .su) : m.got i n = n * (m.b - m.t) * m.rt (1 - i) / (m.b * m.rt i) := by unfold Mk.got; rw [hk]
theorem got_pd {m : Mk} {i n : Int} (hk : m.k ≠ .su) : m.got i n = m.gr (1 - i) * (n * (m.b - m.t)) / (m.gr i * m.b + n * (m.b - m.t)) := by unfold Mk.got; split <;> first | rfl | (rename_i z; exact absurd z hk)
theorem Mk.Ok.rt1 {m : Mk} (o : m.Ok) (hk : m.k = .su) (i : Int) : 1 ≤ m.rt i ∧ m.rt i ≤ 1000000 := by
  obtain ⟨x0, x1, y0, y1⟩ := o.su hk
  unfold Mk.rt; split <;> omega
theorem Pd.step {m mt : Mk} {i t x : Int} (o : m.Ok) (h : Pd m mt i t) (ht : 0 ≤ t) (a : Asks mt i x) : Pd m (mt.deal i x) i (t + x) := by
  obtain ⟨e1, e2⟩ := stk_set (m := mt) (n := x) a.sd
  have c := a.comes
  have l := @comes_le mt i x
  obtain ⟨t0, b1, b2, tb⟩ := o.due
  refine ⟨a.ok', h.s.trans .deal, by rw [e1, h.st]; omega, by rw [e2]; have := h.le; omega, fun hk => ?_, fun hk => ?_⟩
  · have r := o.rt1 hk
    have hk' : mt.k = .su := h.s.k.trans hk
    rw [got_su hk', h.s.b, h.s.t, h.s.rt, h.s.rt] at l
    have q := (Int.le_ediv_iff_mul_le (Int.mul_pos (by omega) (by have := (r i).1; omega))).mp l
    have p := h.su hk
    rw [e2]
    have f1 : m.stk (1 - i) - (mt.stk (1 - i) - mt.comes i x) = (m.stk (1 - i) - mt.stk (1 - i)) + mt.comes i x := by omega
    rw [f1, Int.add_mul, Int.add_mul, Int.add_mul]
    omega
  · have hk' : mt.k ≠ .su := by rw [h.s.k]; exact hk
    have d := a.den
    rw [got_pd hk'] at l
    have q := (Int.le_ediv_iff_mul_le d.1).mp l
    rw [h.s.b, h.s.t] at q
    have p := h.pd hk
    have g1 : (mt.deal i x).gr (1 - i) = mt.gr (1 - i) - mt.comes i x := by rw [gr_stk, gr_stk, e2, (Same.deal).pp]; omega
    have g2 : mt.gr i = m.gr i + t := by rw [gr_stk, gr_stk, h.st, h.s.pp]; omega
    rw [g2] at q
    rw [g1, Int.sub_mul]
    have k1 : (m.gr i + t) * m.b = m.gr i * m.b + t * m.b := Int.add_mul _ _ _
    have k2 : t * (m.b - m.t) ≤ t * m.b := Int.mul_le_mul_of_nonneg_left (by omega) ht
    have k3 : (t + x) * (m.b - m.t) = t * (m.b - m.t) + x * (m.b - m.t) := Int.add_mul _ _ _
    have k4 : mt.comes i x * (m.gr i * m.b + (t + x) * (m.b - m.t)) ≤ mt.comes i x * ((m.gr i + t) * m.b + x * (m.b - m.t)) := Int.mul_le_mul_of_nonneg_left (by omega) c.1
    have k5 : mt.gr (1 - i) * (m.gr i * m.b + (t + x) * (m.b - m.t)) = mt.gr (1 - i) * (m.gr i * m.b + t * (m.b - m.t)) + mt.gr (1 - i) * (x * (m.b - m.t)) := by rw [k3, ← Int.mul_add]; congr 1; omega
    omega
theorem Pd.whole {m mt : Mk} {i n : Int} (h : Pd m mt i n) (a : Asks m i n) : m.stk (1 - i) - mt.stk (1 - i) ≤ m.comes i n := by
  obtain ⟨t0, b1, b2, tb⟩ := a.ok.due
  have sb := h.o.sb (1 - i)
  have key : m.stk (1 - i) - mt.stk (1 - i) ≤ m.got i n := by
    by_cases hk : m.k = .su
    · have r := a.ok.rt1 hk
      rw [got_su hk]
      exact (Int.le_ediv_iff_mul_le (Int.mul_pos (by omega) (by have := (r i).1; omega))).mpr (h.su hk)
    · rw [got_pd hk]
      refine (Int.le_ediv_iff_mul_le a.den.1).mpr ?_
      have p := h.pd hk
      have f : m.stk (1 - i) - mt.stk (1 - i) = m.gr (1 - i) - mt.gr (1 - i) := by rw [gr_stk, gr_stk, h.s.pp]; omega
      rw [f, Int.sub_mul, Int.mul_add]
      omega
  unfold Mk.comes mn
  split <;> omega
theorem kp_mono {m m' : Mk} (h : Same m m') (o : m.Ok) (o' : m'.Ok) (hs : m.s ≤ m'.s) (hc : m.c ≤ m'.c) : m.kp ≤ m'.kp := by
  by_cases hk : m.k = .su
  · have hk' : m'.k = .su := h.k.trans hk
    rw [kp_su hk, kp_su hk', h.x, h.y]
    obtain ⟨x0, x1, y0, y1⟩ := o.su hk
    have p1 : m.x * m.c ≤ m.x * m'.c := Int.mul_le_mul_of_nonneg_left hc (by omega)
    have p2 : m.y * m.s ≤ m.y * m'.s := Int.mul_le_mul_of_nonneg_left hs (by omega)
    omega
  · have hk' : m'.k ≠ .su := by rw [h.k]; exact hk
    rw [kp_pd hk, kp_pd hk', h.px, h.py]
    have px := o.px; have s0 := o.s0; have c0 := o.c0
    exact Int.mul_le_mul (by omega) (by omega) (by omega) (by omega)
theorem Pd.keeps {m mt : Mk} {i n : Int} (h : Pd m mt i n) (a : Asks m i n) : (m.deal i n).kp ≤ mt.kp := by
  obtain ⟨e1, e2⟩ := stk_set (m := m) (n := n) a.sd
  have w := h.whole a
  have st := h.st
  have s : Same (m.deal i n) mt := ⟨h.s.k.trans (Same.deal).k.symm, h.s.t.trans (Same.deal).t.symm, h.s.b.trans (Same.deal).b.symm, h.s.x.trans (Same.deal).x.symm, h.s.y.trans (Same.deal).y.symm⟩
  have q1 : (m.deal i n).stk i ≤ mt.stk i := by omega
  have q2 : (m.deal i n).stk (1 - i) ≤ mt.stk (1 - i) := by omega
  rcases a.sd with rfl | rfl
  · exact kp_mono s a.ok' h.o q1 q2
  · exact kp_mono s a.ok' h.o q2 q1
theorem Sd.fel {i : Int} (h : Sd i) : Sd (1 - i) := by unfold Sd at *; omega
theorem Asks.back {m : Mk} {i n : Int} (a : Asks m i n) (h1 : 1 ≤ m.comes i n) : Asks (m.deal i n) (1 - i) (m.comes i n) := by
  obtain ⟨e1, e2⟩ := stk_set (m := m) (n := n) a.sd
  have sb := a.ok.sb (1 - i)
  have c := a.comes
  exact ⟨⟨a.ok', a.sd.fel, h1, by omega⟩, by omega⟩
theorem Asks.back_le {m : Mk} {i n : Int} (a : Asks m i n) (h1 : 1 ≤ m.comes i n) : (m.deal i n).comes (1 - i) (m.comes i n) ≤ n := by
  have B := a.back h1
  obtain ⟨e1, e2⟩ := stk_set (m := m) (n := n) a.sd
  have j : 1 - (1 - i) = i := by omega
  by_cases hk : m.k = .su
  · have p := a.rule_su hk
    have q := B.rule_su ((Same.deal).k.trans hk)
    have r := a.ok.rt1 hk
    rw [j, (Same.deal).rt, (Same.deal).rt] at q
    exact Int.le_of_mul_le_mul_right (Int.le_trans q p) (by have := (r (1 - i)).1; omega)
  · have p := a.rule_pd hk
    have q := B.rule_pd (by rw [(Same.deal).k]; exact hk)
    have g := a.ok.g1 hk (1 - i)
    have g1 : (m.deal i n).gr (1 - i) + m.comes i n = m.gr (1 - i) := by rw [gr_stk, gr_stk, e2, (Same.deal).pp]; omega
    have g2 : (m.deal i n).gr i = m.gr i + n := by rw [gr_stk, gr_stk, e1, (Same.deal).pp]; omega
    rw [j, g1, g2, Int.mul_comm (m.gr i + n)] at q
    have e : (m.deal i n).comes (1 - i) (m.comes i n) * m.gr (1 - i) ≤ n * m.gr (1 - i) := by rw [Int.mul_comm n]; omega
    exact Int.le_of_mul_le_mul_right e (by omega)

/-! ### texts: words, numbers -/
theorem keeps_of {S S' : Sto} {p : Addr} (u : Upd [p] S S') (h : S p = Option.none) : Keeps S S' := fun a o _ e => u a o (by
  simp only [List.mem_cons, List.not_mem_nil, or_false]
  intro z
  rw [z, h] at e
  cases e) e
/-- a comprehension whose items may lay new things -/
theorem lc_keep (f : D → D) {g : NG} {tt : NT} {te : NE} {kp : Keep} {p : Addr} {e : N.Env} {S0 : Sto} {Q : Sto → Prop} (hk : ∀ S, Upd [p] S0 S → kp S) : ∀ {ds acc : List D} {S : Sto}, acc.length + ds.length ≤ sizeLine → Upd [p] S0 S → S p = some (.lst acc) →
    (∀ x ∈ ds, ∀ S (Y : D → Sto → Prop) (N : Sto → Prop), Upd [p] S0 S → (∀ S3, Keeps S S3 → Y (f x) S3) → g x e S fun e2 S2 => tt e2 S2 fun b S3 => match b with | true => te e2 S3 Y | false => N S3) →
    (∀ S', Upd [p] S0 S' → S' p = some (.lst (acc ++ ds.map f)) → Q S') → lcL g tt te kp p e ds S Q
  | [], acc, S, _, u, hp, _, q => q S u (by rw [List.map_nil, List.append_nil]; exact hp)
  | x :: xs, acc, S, hl, u, hp, h, q => by
    simp only [List.length_cons] at hl
    refine h x (by simp) S _ _ u fun S3 K3 => ?_
    have g3 := K3 _ _ (by simp) hp
    rw [g3]
    have u3 : Upd [p] S0 (N.put S3 p (.lst (acc ++ [f x]))) := (u.trans K3.up).trans (Upd.at (by simp))
    refine ⟨by omega, hk _ u3, lc_keep f hk (by simp only [List.length_append, List.length_cons, List.length_nil]; omega) u3 put_same (fun z hz => h z (by simp [hz])) fun S' u' hp' => q S' u' (by rw [hp', List.map_cons, List.append_assoc]; rfl)⟩
theorem runC_keep (f : D → D) {g : NG} {tt : NT} {te : NE} {kp : Keep} {p : Addr} {e : N.Env} {S0 : Sto} {Q : Sto → Prop} {T : TgC g tt te Q} {ds : List D} (hp : S0 p = Option.none) (hk : ∀ S, Keeps S0 S → kp S) (hl : ds.length ≤ sizeLine)
    (h : ∀ x ∈ ds, ∀ S (Y : D → Sto → Prop) (N : Sto → Prop), Keeps S0 S → (∀ S3, Keeps S S3 → Y (f x) S3) → g x e S fun e2 S2 => tt e2 S2 fun b S3 => match b with | true => te e2 S3 Y | false => N S3)
    (q : ∀ S', Keeps S0 S' → S' p = some (.lst (ds.map f)) → Q S') : runC g tt te kp p e ds (N.put S0 p (.lst [])) Q T :=
  lc_keep f (fun S u => hk S (keeps_of u hp)) (by simpa using hl) (Upd.at (by simp)) put_same (fun x hx S Y N u k => h x hx S Y N (keeps_of u hp) k) fun S' u' g' => q S' (keeps_of u' hp) (by simpa using g')
/-- the text of a number -/
def sh (n : Nat) : Str := Str.ofString (toString ((n : Nat) : Int))
theorem tl_sh (n : Nat) : TL.tl (sh n) = TL.numL n := TL.tl_num n
theorem sh_len {n k : Nat} (hk : 0 < k) (h : n < 10 ^ k) : (sh n).length ≤ k := by rw [TL.len_tl, tl_sh]; exact TL.numL_len hk h
theorem sh_pos (n : Nat) : 1 ≤ (sh n).length := by
  rw [TL.len_tl, tl_sh]
  have := TL.numL_ne n
  exact Nat.pos_of_ne_zero fun z => this (List.length_eq_zero_iff.mp z)
theorem numL_head : ∀ n : Nat, (TL.numL n)[0]? = some 48 → n = 0 := by
  intro n
  induction n using Nat.strongRecOn with
  | _ n ih =>
    intro h
    by_cases h10 : n < 10
    · rw [TL.numL_lt h10] at h
      simp at h
      exact h
    · rw [TL.numL_step (by omega)] at h
      have ne := TL.numL_ne (n / 10)
      rw [List.getElem?_append_left (Nat.pos_of_ne_zero fun z => ne (List.length_eq_zero_iff.mp z))] at h
      have := ih (n / 10) (by omega) h
      omega
theorem blsM : ∀ l : List Bool, blsOf (l.map D.bl) = some l
  | [] => rfl
  | b :: r => by
    show (blsOf (r.map D.bl)).map (b :: ·) = some (b :: r)
    rw [blsM r]; rfl
/-- which signs a text has -/
def allIn (z T : Str) : Bool := (TL.tl z).all fun c => decide (c ∈ TL.tl T)
def inF (T : Str) : D → Option D := fun x => match x with
  | .str c => some (.bl (decide (c.cps.getD 0 0 ∈ T.cps.toList)))
  | _ => Option.none
theorem inF_signs (z T : Str) : (signsD z).filterMap (inF T) = ((TL.tl z).map fun c => decide (c ∈ TL.tl T)).map D.bl := by
  unfold signsD TL.tl
  induction z.cps.toList with
  | nil => rfl
  | cons c r ih =>
    simp only [List.map_cons]
    show D.bl (decide (c ∈ T.cps.toList)) :: List.filterMap (inF T) (r.map fun c => .str ⟨#[c]⟩) = _
    rw [ih]
theorem all_id (l : List Nat) (f : Nat → Bool) : (l.map f).all id = l.all f := by
  induction l with
  | nil => rfl
  | cons c r ih => simp [ih]
structure NameOk (z : Str) : Prop where
  l1 : 1 ≤ z.length
  l2 : z.length ≤ 8
  all : allIn z "abcdefghijklmnopqrstuvwxyz" = true
theorem is_name_yes {z : Str} {S : Sto} {Q : NQ} {E} {T : TgQ Q E} (h : NameOk z) (k : ∀ S', Keeps S S' → Q (.bl true) S') : runF sp_is_name [.str z] S Q E T := by
  simp_arith! [sp_is_name, m_is_name]
  obtain ⟨l1, l2, al⟩ := h
  have sl : (64 : Nat) ≤ sizeLine := by decide
  have hl : z.length ≤ sizeLine := by omega
  have d1 : decide ((1 : Int) ≤ (z.length : Nat)) = true := decide_eq_true (by omega)
  have d2 : decide (((z.length : Nat) : Int) ≤ 8) = true := decide_eq_true (by omega)
  simp_arith [hl, if_pos, d1, d2]
  intro p hp
  refine runC_pure (inF "abcdefghijklmnopqrstuvwxyz") (fun _ => trivial) (by unfold signsD; rw [List.length_map, Array.length_toList]; exact hl) ?_ ?_
  · intro x hx l Y N hY
    unfold signsD at hx
    obtain ⟨c, _, rfl⟩ := List.mem_map.mp hx
    simp_arith []
    exact ⟨rfl, hY⟩
  rw [inF_signs]
  simp_arith [put_same]
  rw [blsM]
  dsimp only
  rw [all_id]
  have e : ((TL.tl z).all fun c => decide (c ∈ TL.tl "abcdefghijklmnopqrstuvwxyz")) = true := al
  rw [e]
  exact k _ (Upd.new hp)
theorem digits_in (n : Nat) : allIn (sh n) "0123456789" = true := by
  unfold allIn
  rw [tl_sh, List.all_eq_true]
  intro c hc
  have hd := TL.numL_digits n c hc
  apply decide_eq_true
  rw [TL.tl_ofString]
  have e : ("0123456789".toList.map Char.toNat) = [48, 49, 50, 51, 52, 53, 54, 55, 56, 57] := by decide
  rw [e]
  simp only [List.mem_cons, List.not_mem_nil, or_false]
  omega
theorem sh_zero {n : Nat} (h : (TL.tl (sh n))[0]? = some 48) : n = 0 := by
  rw [tl_sh] at h
  exact numL_head n h
theorem number_in_yes {n : Nat} {S : Sto} {Q : NQ} {E} {T : TgQ Q E} (hn : n < 10 ^ 13) (k : ∀ S', Keeps S S' → Q (.int n) S') : runF sp_number_in [.str (sh n)] S Q E T := by
  simp_arith! [sp_number_in, m_number_in]
  have sl : (64 : Nat) ≤ sizeLine := by decide
  have l1 := sh_pos n
  have l2 := sh_len (k := 13) (by decide) hn
  have hl : (sh n).length ≤ sizeLine := by omega
  have d1 : decide ((1 : Int) ≤ ((sh n).length : Nat)) = true := decide_eq_true (by omega)
  have d2 : decide ((((sh n).length : Nat) : Int) ≤ 13) = true := decide_eq_true (by omega)
  simp_arith [hl, if_pos, d1, d2, Bool.not_true]
  intro p hp
  refine runC_pure (inF "0123456789") (fun _ => trivial) (by unfold signsD; rw [List.length_map, Array.length_toList]; exact hl) ?_ ?_
  · intro x hx l Y N hY
    unfold signsD at hx
    obtain ⟨c, _, rfl⟩ := List.mem_map.mp hx
    simp_arith []
    exact ⟨rfl, hY⟩
  rw [inF_signs]
  simp_arith [put_same]
  rw [blsM]
  dsimp only
  rw [all_id]
  have e : ((TL.tl (sh n)).all fun c => decide (c ∈ TL.tl "0123456789")) = true := digits_in n
  rw [e]
  rw [Bool.not_true]
  dsimp only
  obtain ⟨c, hc⟩ : ∃ c, (TL.tl (sh n))[0]? = some c := ⟨_, List.getElem?_eq_getElem (by rw [← TL.len_tl]; omega)⟩
  have at0 : atI (sh n).cps.toList 0 = some c := by
    rw [atI_nat' (by decide)]
    exact hc
  refine ⟨hl, ?_⟩
  rw [at0]
  dsimp only
  have it : intText? (sh n) = some (n : Int) := TL.int_num (by rw [← tl_sh, ← TL.len_tl]; omega)
  have K := k _ (Upd.new (o := .lst (((TL.tl (sh n)).map fun c => decide (c ∈ TL.tl "0123456789")).map D.bl)) hp)
  by_cases hz : ({ cps := #[c] } : Str) = "0"
  · rw [decide_eq_true hz]
    have c48 : c = 48 := by
      have q := congrArg TL.tl hz
      rw [TL.tl_ofString] at q
      have e0 : ("0".toList.map Char.toNat) = [48] := by decide
      rw [e0] at q
      have q' : [c] = [48] := q
      exact (List.cons.inj q').1
    rw [c48] at hc
    have n0 := sh_zero hc
    subst n0
    have e1 : decide (sh 0 = "0") = true := by decide
    rw [e1]
    exact ⟨_, it, by omega, K⟩
  · rw [decide_eq_false hz]
    exact ⟨_, it, by omega, K⟩
theorem sh_free {n s : Nat} (h : s < 48 ∨ 57 < s) : s ∉ TL.tl (sh n) := by rw [tl_sh]; exact TL.numL_free h
def dueT (t b : Nat) : Str := sh t ++ "/" ++ sh b
theorem due_in_yes {t b : Nat} {S : Sto} {Q : NQ} {E} {T : TgQ Q E} (ht : t < 10 ^ 13) (hb : b < 10 ^ 13) (k : ∀ S', Keeps S S' → Q (.tup [.int t, .int b]) S') : runF sp_due_in [.str (dueT t b)] S Q E T := by
  simp_arith! [sp_due_in, m_due_in]
  have ep : Txt.partition (dueT t b) (Str.ofString "/") = (sh t, Str.ofString "/", sh b) := TL.partition_app (s := 47) (S := []) (by rw [TL.tl_ofString]; decide) (sh_free (by omega))
  have l1 := sh_len (k := 13) (by decide) ht
  have l2 := sh_len (k := 13) (by decide) hb
  have sl : (64 : Nat) ≤ sizeLine := by decide
  have hl : (dueT t b).length ≤ sizeLine := by
    unfold dueT
    rw [TL.len_tl, TL.tl_append, TL.tl_append, List.length_append, List.length_append, ← TL.len_tl, ← TL.len_tl, ← TL.len_tl]
    have : (Str.ofString "/").length = 1 := by decide
    omega
  have e1 : ((Str.ofString "/").length == 0) = false := by decide
  simp_arith [e1, hl]
  generalize Txt.partition (dueT t b) (Str.ofString "/") = pp at ep ⊢
  subst ep
  dsimp only
  refine number_in_yes ht fun S1 K1 => ?_
  simp_arith []
  refine number_in_yes hb fun S2 K2 => ?_
  simp_arith []
  refine number_in_yes ht fun S3 K3 => ?_
  try simp_arith []
  refine number_in_yes hb fun S4 K4 => ?_
  try simp_arith []
  exact k _ (((K1.trans K2).trans K3).trans K4)

/-! ### a maker's row is read -/
def shI (i : Int) : Str := Str.ofString (toString i)
theorem shI_nat {i : Int} (h : 0 ≤ i) : shI i = sh i.toNat := by
  have e : i = ((i.toNat : Nat) : Int) := by omega
  unfold sh
  rw [← e]
  rfl
theorem number_in_int {i : Int} {S : Sto} {Q : NQ} {E} {T : TgQ Q E} (h0 : 0 ≤ i) (h1 : i < 10000000000000) (k : ∀ S', Keeps S S' → Q (.int i) S') : runF sp_number_in [.str (shI i)] S Q E T := by
  rw [shI_nat h0]
  refine number_in_yes (by omega) fun S' K => ?_
  have e : ((i.toNat : Nat) : Int) = i := by omega
  rw [e]
  exact k S' K
def dueI (t b : Int) : Str := shI t ++ Str.ofString "/" ++ shI b
theorem due_in_int {t b : Int} {S : Sto} {Q : NQ} {E} {T : TgQ Q E} (d : Due t b) (k : ∀ S', Keeps S S' → Q (.tup [.int t, .int b]) S') : runF sp_due_in [.str (dueI t b)] S Q E T := by
  obtain ⟨t0, b1, b2, tb⟩ := d
  unfold dueI
  rw [shI_nat t0, shI_nat (by omega : 0 ≤ b)]
  refine due_in_yes (by omega) (by omega) fun S' K => ?_
  have e1 : ((t.toNat : Nat) : Int) = t := by omega
  have e2 : ((b.toNat : Nat) : Int) = b := by omega
  rw [e1, e2]
  exact k S' K
def Mk.tails (m : Mk) : List Str := match m.k with
  | .pr => []
  | _ => [shI m.x, shI m.y]
def mwords (nm : Str) (m : Mk) : List Str := Str.ofString "maker" :: nm :: m.word :: shI m.s :: shI m.c :: dueI m.t m.b :: m.tails
theorem cutW {a b c d e f : D} (r : List D) : cutD (a :: b :: c :: d :: e :: f :: r) (some 3) (some 5) = [d, e] ∧ cutD (a :: b :: c :: d :: e :: f :: r) (some 6) Option.none = r := by
  constructor
  · unfold cutD
    have h1 : HT.sIx (a :: b :: c :: d :: e :: f :: r).length 0 (some 3) = 3 := (HT.sIx_nat _ _ 3).trans (Nat.min_eq_left (by simp only [List.length_cons]; omega))
    have h2 : HT.sIx (a :: b :: c :: d :: e :: f :: r).length (a :: b :: c :: d :: e :: f :: r).length (some 5) = 5 := (HT.sIx_nat _ _ 5).trans (Nat.min_eq_left (by simp only [List.length_cons]; omega))
    rw [h1, h2]; rfl
  · unfold cutD
    have h1 : HT.sIx (a :: b :: c :: d :: e :: f :: r).length 0 (some 6) = 6 := (HT.sIx_nat _ _ 6).trans (Nat.min_eq_left (by simp only [List.length_cons]; omega))
    rw [h1, HT.sIx_none]
    simp
/-- the number that a text writes -/
def decN (d : D) : D := match d with
  | .str z => (match intText? z with
    | some n => .int n
    | Option.none => .non)
  | _ => .non
theorem decN_sh {i : Int} (h0 : 0 ≤ i) (h1 : i < 10000000000000) : decN (.str (shI i)) = .int i := by
  unfold decN
  have l := sh_len (n := i.toNat) (k := 13) (by decide) (by omega)
  have it : intText? (shI i) = some i := by
    rw [shI_nat h0]
    have e : ((i.toNat : Nat) : Int) = i := by omega
    have := TL.int_num (n := i.toNat) (by rw [← tl_sh, ← TL.len_tl]; omega)
    rw [e] at this
    exact (show intText? (sh i.toNat) = some i from by unfold sh; rw [e]; exact this)
  dsimp only
  rw [it]
theorem plain_in_yes {p : Addr} {nm : Str} {m : Mk} {S : Sto} {Q : NQ} {E} {T : TgQ Q E} (o : m.Ok) (hp : S p = some (.lst ((mwords nm m).map D.str))) (k : ∀ S', Keeps S S' → Q m.d S') : runF sp_plain_in [.ref p] S Q E T := by
  simp_arith! [sp_plain_in, m_plain_in]
  have q1 := o.s0; have q2 := o.s1; have q3 := o.c0; have q4 := o.c1
  cases hk : m.k with
  | pr =>
    have ew : m.word = "product" := by unfold Mk.word; rw [hk]
    have et : m.tails = [] := by unfold Mk.tails; rw [hk]
    have hp' : S p = some (.lst [.str "maker", .str nm, .str "product", .str (shI m.s), .str (shI m.c), .str (dueI m.t m.b)]) := by rw [hp]; unfold mwords; rw [ew, et]; rfl
    have lk : List.lookup (Str.ofString "product") c_SIZES = some 6 := by decide
    have n1 : decide (((6 : Nat) : Int) < 6) = false := by decide
    have n2 : decide ((6 : Int) = ((6 : Nat) : Int)) = true := by decide
    have n3 : decide (((6 : Nat) : Int) = 6) = true := by decide
    have cw := cutW (a := .str "maker") (b := .str nm) (c := .str "product") (d := .str (shI m.s)) (e := .str (shI m.c)) (f := .str (dueI m.t m.b)) []
    obtain ⟨cw1, cw2⟩ := cw
    have md' : m.d = .tup [.str "product", .int m.s, .int m.c, .tup [.int m.t, .int m.b]] := by unfold Mk.d Mk.more; rw [ew, hk]
    simp_arith [hp', atI_2, lk, n1, n2, Bool.not_true]
    intro p1 hp1
    have K1 : Keeps S (put S p1 (.lst [.str (shI m.s), .str (shI m.c)])) := Upd.new hp1
    rw [cw1]
    have g1 : put S p1 (.lst [.str (shI m.s), .str (shI m.c)]) p = some (.lst [.str "maker", .str nm, .str "product", .str (shI m.s), .str (shI m.c), .str (dueI m.t m.b)]) := K1 _ _ (by simp) hp'
    have a1 : put S p1 (.lst [.str (shI m.s), .str (shI m.c)]) p1 = some (.lst [.str (shI m.s), .str (shI m.c)]) := put_same
    generalize put S p1 (.lst [.str (shI m.s), .str (shI m.c)]) = S1 at *
    rw [g1]
    dsimp only
    rw [cw2]
    intro p2 hp2
    have K2 : Keeps S1 (put S1 p2 (.lst [])) := Upd.new hp2
    have g2 := K2 _ _ (by simp) a1
    have a2 : put S1 p2 (.lst []) p2 = some (.lst []) := put_same
    have h2 := K2 _ _ (by simp) g1
    generalize put S1 p2 (.lst []) = S2 at *
    rw [g2, a2]
    refine ⟨by simp only [List.length_cons, List.length_nil]; decide, fun p3 hp3 => ?_⟩
    have K3 : Keeps S2 (put S2 p3 (.lst [.str (shI m.s), .str (shI m.c)])) := Upd.new hp3
    have a3 : put S2 p3 (.lst [.str (shI m.s), .str (shI m.c)]) p3 = some (.lst [.str (shI m.s), .str (shI m.c)]) := put_same
    have h3 := K3 _ _ (by simp) h2
    simp only [List.cons_append, List.nil_append]
    generalize put S2 p3 (.lst [.str (shI m.s), .str (shI m.c)]) = S3 at *
    rw [a3]
    dsimp only
    intro p4 hp4
    have n43 : p3 ≠ p4 := fun z => by rw [z] at a3; rw [hp4] at a3; cases a3
    refine ⟨by rw [put_ne n43]; exact a3, ?_⟩
    refine runC_keep decN hp4 (fun S K => K _ _ (by simp) a3) (by simp only [List.length_cons, List.length_nil]; decide) (fun x hx S Y N K hY => ?_) fun S4 K4 g4 => ?_
    · obtain ⟨i, rfl, i0, i1⟩ : ∃ i : Int, x = .str (shI i) ∧ 0 ≤ i ∧ i < 10000000000000 := by
        simp only [List.mem_cons, List.not_mem_nil, or_false] at hx
        rcases hx with rfl | rfl
        · exact ⟨m.s, rfl, by omega, by omega⟩
        · exact ⟨m.c, rfl, by omega, by omega⟩
      simp_arith []
      refine number_in_int i0 i1 fun S5 K5 => ?_
      have := hY S5 K5
      rw [decN_sh i0 i1] at this
      exact this
    simp only [List.map_cons, List.map_nil] at g4
    rw [decN_sh (i := m.s) (by omega) (by omega), decN_sh (i := m.c) (by omega) (by omega)] at g4
    have h4 := K4 _ _ (by simp) h3
    have at5 : atI ([.str "maker", .str nm, .str "product", .str (shI m.s), .str (shI m.c), .str (dueI m.t m.b)] : List D) 5 = some (.str (dueI m.t m.b)) := rfl
    simp_arith [h4, at5]
    refine due_in_int o.due fun S5 K5 => ?_
    have h5 := K5 _ _ (by simp) h4
    have g5 := K5 _ _ (by simp) g4
    have fl : ([.int m.s, .int m.c] : List D).all flatD = true := rfl
    have an : ([.int m.s, .int m.c] : List D).any (fun d => eqF d .non) = false := rfl
    have fn : flatD .non = true := rfl
    have i0 : atI ([.int m.s, .int m.c] : List D) 0 = some (.int m.s) := rfl
    have i1 : atI ([.int m.s, .int m.c] : List D) 1 = some (.int m.c) := rfl

    have kk := k S5 (((((K1.trans K2).trans K3).trans K4)).trans K5)
    rw [md'] at kk
    simp_arith [g5, h5, fl, an, fn, atI_2, i0, i1, n3]
    first | exact kk | (refine ⟨?_, kk⟩; decide)
  | st =>
    obtain ⟨x0, x1, y0, y1, _, _⟩ := o.st hk
    have ew : m.word = "stretch" := by unfold Mk.word; rw [hk]
    have et : m.tails = [shI m.x, shI m.y] := by unfold Mk.tails; rw [hk]
    have hp' : S p = some (.lst [.str "maker", .str nm, .str "stretch", .str (shI m.s), .str (shI m.c), .str (dueI m.t m.b), .str (shI m.x), .str (shI m.y)]) := by rw [hp]; unfold mwords; rw [ew, et]; rfl
    have lk : List.lookup (Str.ofString "stretch") c_SIZES = some 8 := by decide
    have n1 : decide (((8 : Nat) : Int) < 6) = false := by decide
    have n2 : decide ((8 : Int) = ((8 : Nat) : Int)) = true := by decide
    have n3 : decide (((8 : Nat) : Int) = 6) = false := by decide
    have cw := cutW (a := .str "maker") (b := .str nm) (c := .str "stretch") (d := .str (shI m.s)) (e := .str (shI m.c)) (f := .str (dueI m.t m.b)) [.str (shI m.x), .str (shI m.y)]
    obtain ⟨cw1, cw2⟩ := cw
    have md' : m.d = .tup [.str "stretch", .int m.s, .int m.c, .tup [.int m.t, .int m.b], .tup [.int m.x, .int m.y]] := by unfold Mk.d Mk.more; rw [ew, hk]
    simp_arith [hp', atI_2, lk, n1, n2, Bool.not_true]
    intro p1 hp1
    have K1 : Keeps S (put S p1 (.lst [.str (shI m.s), .str (shI m.c)])) := Upd.new hp1
    rw [cw1]
    have g1 : put S p1 (.lst [.str (shI m.s), .str (shI m.c)]) p = some (.lst [.str "maker", .str nm, .str "stretch", .str (shI m.s), .str (shI m.c), .str (dueI m.t m.b), .str (shI m.x), .str (shI m.y)]) := K1 _ _ (by simp) hp'
    have a1 : put S p1 (.lst [.str (shI m.s), .str (shI m.c)]) p1 = some (.lst [.str (shI m.s), .str (shI m.c)]) := put_same
    generalize put S p1 (.lst [.str (shI m.s), .str (shI m.c)]) = S1 at *
    rw [g1]
    dsimp only
    rw [cw2]
    intro p2 hp2
    have K2 : Keeps S1 (put S1 p2 (.lst [.str (shI m.x), .str (shI m.y)])) := Upd.new hp2
    have g2 := K2 _ _ (by simp) a1
    have a2 : put S1 p2 (.lst [.str (shI m.x), .str (shI m.y)]) p2 = some (.lst [.str (shI m.x), .str (shI m.y)]) := put_same
    have h2 := K2 _ _ (by simp) g1
    generalize put S1 p2 (.lst [.str (shI m.x), .str (shI m.y)]) = S2 at *
    rw [g2, a2]
    refine ⟨by simp only [List.length_cons, List.length_nil]; decide, fun p3 hp3 => ?_⟩
    have K3 : Keeps S2 (put S2 p3 (.lst [.str (shI m.s), .str (shI m.c), .str (shI m.x), .str (shI m.y)])) := Upd.new hp3
    have a3 : put S2 p3 (.lst [.str (shI m.s), .str (shI m.c), .str (shI m.x), .str (shI m.y)]) p3 = some (.lst [.str (shI m.s), .str (shI m.c), .str (shI m.x), .str (shI m.y)]) := put_same
    have h3 := K3 _ _ (by simp) h2
    simp only [List.cons_append, List.nil_append]
    generalize put S2 p3 (.lst [.str (shI m.s), .str (shI m.c), .str (shI m.x), .str (shI m.y)]) = S3 at *
    rw [a3]
    dsimp only
    intro p4 hp4
    have n43 : p3 ≠ p4 := fun z => by rw [z] at a3; rw [hp4] at a3; cases a3
    refine ⟨by rw [put_ne n43]; exact a3, ?_⟩
    refine runC_keep decN hp4 (fun S K => K _ _ (by simp) a3) (by simp only [List.length_cons, List.length_nil]; decide) (fun x hx S Y N K hY => ?_) fun S4 K4 g4 => ?_
    · obtain ⟨i, rfl, i0, i1⟩ : ∃ i : Int, x = .str (shI i) ∧ 0 ≤ i ∧ i < 10000000000000 := by
        simp only [List.mem_cons, List.not_mem_nil, or_false] at hx
        rcases hx with rfl | rfl | rfl | rfl
        · exact ⟨m.s, rfl, by omega, by omega⟩
        · exact ⟨m.c, rfl, by omega, by omega⟩
        · exact ⟨m.x, rfl, by omega, by omega⟩
        · exact ⟨m.y, rfl, by omega, by omega⟩
      simp_arith []
      refine number_in_int i0 i1 fun S5 K5 => ?_
      have := hY S5 K5
      rw [decN_sh i0 i1] at this
      exact this
    simp only [List.map_cons, List.map_nil] at g4
    rw [decN_sh (i := m.s) (by omega) (by omega), decN_sh (i := m.c) (by omega) (by omega), decN_sh (i := m.x) (by omega) (by omega), decN_sh (i := m.y) (by omega) (by omega)] at g4
    have h4 := K4 _ _ (by simp) h3
    have at5 : atI ([.str "maker", .str nm, .str "stretch", .str (shI m.s), .str (shI m.c), .str (dueI m.t m.b), .str (shI m.x), .str (shI m.y)] : List D) 5 = some (.str (dueI m.t m.b)) := rfl
    simp_arith [h4, at5]
    refine due_in_int o.due fun S5 K5 => ?_
    have h5 := K5 _ _ (by simp) h4
    have g5 := K5 _ _ (by simp) g4
    have fl : ([.int m.s, .int m.c, .int m.x, .int m.y] : List D).all flatD = true := rfl
    have an : ([.int m.s, .int m.c, .int m.x, .int m.y] : List D).any (fun d => eqF d .non) = false := rfl
    have fn : flatD .non = true := rfl
    have i0 : atI ([.int m.s, .int m.c, .int m.x, .int m.y] : List D) 0 = some (.int m.s) := rfl
    have i1 : atI ([.int m.s, .int m.c, .int m.x, .int m.y] : List D) 1 = some (.int m.c) := rfl
    have i2 : atI ([.int m.s, .int m.c, .int m.x, .int m.y] : List D) 2 = some (.int m.x) := rfl
    have i3 : atI ([.int m.s, .int m.c, .int m.x, .int m.y] : List D) 3 = some (.int m.y) := rfl
    have kk := k S5 (((((K1.trans K2).trans K3).trans K4)).trans K5)
    rw [md'] at kk
    simp_arith [g5, h5, fl, an, fn, atI_2, i0, i1, n3, i2, i3, List.cons_append, List.nil_append]
    first | exact kk | (refine ⟨?_, kk⟩; decide)
  | su =>
    obtain ⟨x0, x1, y0, y1⟩ := o.su hk
    have ew : m.word = "sum" := by unfold Mk.word; rw [hk]
    have et : m.tails = [shI m.x, shI m.y] := by unfold Mk.tails; rw [hk]
    have hp' : S p = some (.lst [.str "maker", .str nm, .str "sum", .str (shI m.s), .str (shI m.c), .str (dueI m.t m.b), .str (shI m.x), .str (shI m.y)]) := by rw [hp]; unfold mwords; rw [ew, et]; rfl
    have lk : List.lookup (Str.ofString "sum") c_SIZES = some 8 := by decide
    have n1 : decide (((8 : Nat) : Int) < 6) = false := by decide
    have n2 : decide ((8 : Int) = ((8 : Nat) : Int)) = true := by decide
    have n3 : decide (((8 : Nat) : Int) = 6) = false := by decide
    have cw := cutW (a := .str "maker") (b := .str nm) (c := .str "sum") (d := .str (shI m.s)) (e := .str (shI m.c)) (f := .str (dueI m.t m.b)) [.str (shI m.x), .str (shI m.y)]
    obtain ⟨cw1, cw2⟩ := cw
    have md' : m.d = .tup [.str "sum", .int m.s, .int m.c, .tup [.int m.t, .int m.b], .tup [.int m.x, .int m.y]] := by unfold Mk.d Mk.more; rw [ew, hk]
    simp_arith [hp', atI_2, lk, n1, n2, Bool.not_true]
    intro p1 hp1
    have K1 : Keeps S (put S p1 (.lst [.str (shI m.s), .str (shI m.c)])) := Upd.new hp1
    rw [cw1]
    have g1 : put S p1 (.lst [.str (shI m.s), .str (shI m.c)]) p = some (.lst [.str "maker", .str nm, .str "sum", .str (shI m.s), .str (shI m.c), .str (dueI m.t m.b), .str (shI m.x), .str (shI m.y)]) := K1 _ _ (by simp) hp'
    have a1 : put S p1 (.lst [.str (shI m.s), .str (shI m.c)]) p1 = some (.lst [.str (shI m.s), .str (shI m.c)]) := put_same
    generalize put S p1 (.lst [.str (shI m.s), .str (shI m.c)]) = S1 at *
    rw [g1]
    dsimp only
    rw [cw2]
    intro p2 hp2
    have K2 : Keeps S1 (put S1 p2 (.lst [.str (shI m.x), .str (shI m.y)])) := Upd.new hp2
    have g2 := K2 _ _ (by simp) a1
    have a2 : put S1 p2 (.lst [.str (shI m.x), .str (shI m.y)]) p2 = some (.lst [.str (shI m.x), .str (shI m.y)]) := put_same
    have h2 := K2 _ _ (by simp) g1
    generalize put S1 p2 (.lst [.str (shI m.x), .str (shI m.y)]) = S2 at *
    rw [g2, a2]
    refine ⟨by simp only [List.length_cons, List.length_nil]; decide, fun p3 hp3 => ?_⟩
    have K3 : Keeps S2 (put S2 p3 (.lst [.str (shI m.s), .str (shI m.c), .str (shI m.x), .str (shI m.y)])) := Upd.new hp3
    have a3 : put S2 p3 (.lst [.str (shI m.s), .str (shI m.c), .str (shI m.x), .str (shI m.y)]) p3 = some (.lst [.str (shI m.s), .str (shI m.c), .str (shI m.x), .str (shI m.y)]) := put_same
    have h3 := K3 _ _ (by simp) h2
    simp only [List.cons_append, List.nil_append]
    generalize put S2 p3 (.lst [.str (shI m.s), .str (shI m.c), .str (shI m.x), .str (shI m.y)]) = S3 at *
    rw [a3]
    dsimp only
    intro p4 hp4
    have n43 : p3 ≠ p4 := fun z => by rw [z] at a3; rw [hp4] at a3; cases a3
    refine ⟨by rw [put_ne n43]; exact a3, ?_⟩
    refine runC_keep decN hp4 (fun S K => K _ _ (by simp) a3) (by simp only [List.length_cons, List.length_nil]; decide) (fun x hx S Y N K hY => ?_) fun S4 K4 g4 => ?_
    · obtain ⟨i, rfl, i0, i1⟩ : ∃ i : Int, x = .str (shI i) ∧ 0 ≤ i ∧ i < 10000000000000 := by
        simp only [List.mem_cons, List.not_mem_nil, or_false] at hx
        rcases hx with rfl | rfl | rfl | rfl
        · exact ⟨m.s, rfl, by omega, by omega⟩
        · exact ⟨m.c, rfl, by omega, by omega⟩
        · exact ⟨m.x, rfl, by omega, by omega⟩
        · exact ⟨m.y, rfl, by omega, by omega⟩
      simp_arith []
      refine number_in_int i0 i1 fun S5 K5 => ?_
      have := hY S5 K5
      rw [decN_sh i0 i1] at this
      exact this
    simp only [List.map_cons, List.map_nil] at g4
    rw [decN_sh (i := m.s) (by omega) (by omega), decN_sh (i := m.c) (by omega) (by omega), decN_sh (i := m.x) (by omega) (by omega), decN_sh (i := m.y) (by omega) (by omega)] at g4
    have h4 := K4 _ _ (by simp) h3
    have at5 : atI ([.str "maker", .str nm, .str "sum", .str (shI m.s), .str (shI m.c), .str (dueI m.t m.b), .str (shI m.x), .str (shI m.y)] : List D) 5 = some (.str (dueI m.t m.b)) := rfl
    simp_arith [h4, at5]
    refine due_in_int o.due fun S5 K5 => ?_
    have h5 := K5 _ _ (by simp) h4
    have g5 := K5 _ _ (by simp) g4
    have fl : ([.int m.s, .int m.c, .int m.x, .int m.y] : List D).all flatD = true := rfl
    have an : ([.int m.s, .int m.c, .int m.x, .int m.y] : List D).any (fun d => eqF d .non) = false := rfl
    have fn : flatD .non = true := rfl
    have i0 : atI ([.int m.s, .int m.c, .int m.x, .int m.y] : List D) 0 = some (.int m.s) := rfl
    have i1 : atI ([.int m.s, .int m.c, .int m.x, .int m.y] : List D) 1 = some (.int m.c) := rfl
    have i2 : atI ([.int m.s, .int m.c, .int m.x, .int m.y] : List D) 2 = some (.int m.x) := rfl
    have i3 : atI ([.int m.s, .int m.c, .int m.x, .int m.y] : List D) 3 = some (.int m.y) := rfl
    have kk := k S5 (((((K1.trans K2).trans K3).trans K4)).trans K5)
    rw [md'] at kk
    simp_arith [g5, h5, fl, an, fn, atI_2, i0, i1, n3, i2, i3, List.cons_append, List.nil_append]
    first | exact kk | (refine ⟨?_, kk⟩; decide)

/-! ### markets -/
structure Mkr where
  nm : Str
  m : Mk
  p : Addr
  q : Addr
structure Hnd where
  nm : Str
  a : Int
  b : Int
structure Hnd.Ok (h : Hnd) : Prop where
  a0 : 0 ≤ h.a
  a1 : h.a ≤ 1000000000000
  b0 : 0 ≤ h.b
  b1 : h.b ≤ 1000000000000
def stD (ms : List Mkr) : List (Key × D) := ms.map fun r => (.inr r.nm, .ref r.p)
def poD (hs : List Hnd) : List (Key × D) := hs.map fun h => (.inr h.nm, .tup [.int h.a, .int h.b])
structure MarketAt (g ps pk : Addr) (ms : List Mkr) (hs : List Hnd) (S : Sto) : Prop where
  ins : S g = some (.ins "Market" [("stalls", .ref ps), ("pockets", .ref pk)])
  sta : S ps = some (.dic (stD ms))
  poc : S pk = some (.dic (poD hs))
  mks : ∀ r ∈ ms, MkAt r.p r.q r.m S
  ne : ps ≠ pk
  qn : (ms.map (·.q)).Nodup
theorem MarketAt.up {g ps pk : Addr} {ms : List Mkr} {hs : List Hnd} {S S' : Sto} {A : List Addr} (h : MarketAt g ps pk ms hs S) (u : Upd A S S') (hg : g ∉ A) (hps : ps ∉ A) (hpk : pk ∉ A) (hm : ∀ r ∈ ms, r.p ∉ A ∧ r.q ∉ A) : MarketAt g ps pk ms hs S' :=
  ⟨u _ _ hg h.ins, u _ _ hps h.sta, u _ _ hpk h.poc, fun r hr => (h.mks r hr).up u (hm r hr).1 (hm r hr).2, h.ne, h.qn⟩
theorem MarketAt.keep {g ps pk : Addr} {ms : List Mkr} {hs : List Hnd} {S S' : Sto} (h : MarketAt g ps pk ms hs S) (u : Keeps S S') : MarketAt g ps pk ms hs S' := h.up u (by simp) (by simp) (by simp) fun _ _ => ⟨by simp, by simp⟩
theorem dput_new {kvs : List (Key × D)} {k : Key} {v : D} (h : ∀ p ∈ kvs, p.1 ≠ k) : dput kvs k v = kvs ++ [(k, v)] := by
  unfold dput
  rw [if_neg]
  intro z
  obtain ⟨p, hp, e⟩ := List.any_eq_true.mp z
  exact h p hp (of_decide_eq_true e)
theorem dget_none {kvs : List (Key × D)} {k : Key} (h : ∀ p ∈ kvs, p.1 ≠ k) : dget kvs k = Option.none := by
  unfold dget
  rw [List.find?_eq_none.mpr fun p hp => by simpa using h p hp]
  rfl
theorem made_yes {m : Mk} {S : Sto} {Q : NQ} {E} {T : TgQ Q E} (o : m.Ok) (k : ∀ p q S', S p = Option.none → S q = Option.none → MkAt p q m S' → Keeps S S' → Q (.ref p) S') : runF sp_made_or_none [m.d] S Q E T := by
  simp_arith! [sp_made_or_none, m_made_or_none]
  try simp_arith []
  refine maker_of_ok o fun p q S1 hp hq M K => ?_
  try simp_arith []
  exact k p q S1 hp hq M K
theorem flds1 {ps pk : Addr} : List.lookup ("stalls" : Str) ([("stalls", .ref ps), ("pockets", .ref pk)] : List (Str × D)) = some (.ref ps) := by simp [List.lookup]
theorem flds2 {ps pk : Addr} : List.lookup ("pockets" : Str) ([("stalls", .ref ps), ("pockets", .ref pk)] : List (Str × D)) = some (.ref pk) := by simp [List.lookup, ofString_beq]
theorem inr_ne {a b : Str} (h : a ≠ b) : (Sum.inr a : Key) ≠ Sum.inr b := fun z => h (Sum.inr.inj z)
theorem st_keys {ms : List Mkr} {nm : Str} (h : ∀ r ∈ ms, r.nm ≠ nm) : ∀ p ∈ stD ms, p.1 ≠ (.inr nm : Key) := by
  intro p hp
  obtain ⟨r, hr, rfl⟩ := List.mem_map.mp hp
  exact inr_ne (h r hr)
theorem po_keys {hs : List Hnd} {nm : Str} (h : ∀ r ∈ hs, r.nm ≠ nm) : ∀ p ∈ poD hs, p.1 ≠ (.inr nm : Key) := by
  intro p hp
  obtain ⟨r, hr, rfl⟩ := List.mem_map.mp hp
  exact inr_ne (h r hr)
theorem put_maker_yes {g ps pk w : Addr} {ms : List Mkr} {nm : Str} {m : Mk} {S : Sto} {Q : NQ} {E} {T : TgQ Q E} (G : MarketAt g ps pk ms [] S) (o : m.Ok) (hl : ms.length < 6) (hn : ∀ r ∈ ms, r.nm ≠ nm) (hw : S w = some (.lst ((mwords nm m).map D.str)))
    (k : ∀ p q S', S p = Option.none → S q = Option.none → MarketAt g ps pk (ms ++ [⟨nm, m, p, q⟩]) [] S' → Upd [ps] S S' → Q (.bl true) S') : runF sp_put_maker [.ref g, .ref w] S Q E T := by
  simp_arith! [sp_put_maker, m_put_maker]
  try simp_arith []
  refine plain_in_yes o hw fun S1 K1 => ?_
  have G1 := G.keep K1
  have md' := md m
  rw [md m]
  simp_arith []
  rw [← md m]
  refine made_yes o fun p q S2 hp hq M2 K2 => ?_
  have G2 := G1.keep K2
  have w2 := K2 _ _ (by simp) (K1 _ _ (by simp) hw)
  have ln : decide ((((stD ms).length : Nat) : Int) = 6) = false := by
    unfold stD
    rw [List.length_map]
    exact decide_eq_false (by omega)
  have at1 : atI ((mwords nm m).map D.str) 1 = some (.str nm) := by
    unfold mwords
    exact atI_1 _ _ _
  have lm : (stD ms).length < sizeLine := by
    have : (64 : Nat) ≤ sizeLine := by decide
    unfold stD
    rw [List.length_map]
    omega
  simp_arith [G2.ins, flds1, flds2, G2.sta, ln, Option.map_some]
  intro z hz
  have K3 : Keeps S2 (put S2 z (.dic [])) := Upd.new hz
  have G3 := G2.keep K3
  have gz : put S2 z (.dic []) z = some (.dic []) := put_same
  have w3 := K3 _ _ (by simp) w2
  have M3 := M2.up K3 (by simp) (by simp)
  generalize put S2 z (.dic []) = S3 at *
  have poc : S3 pk = some (.dic []) := G3.poc
  have e0 : eqDic [] [] = some true := rfl
  have dp : dput (stD ms) (.inr nm) (.ref p) = stD (ms ++ [⟨nm, m, p, q⟩]) := by
    rw [dput_new (st_keys hn)]
    unfold stD
    rw [List.map_append]
    rfl
  simp_arith [poc, gz, e0, Bool.not_true, G3.ins, flds1, w3, at1, G3.sta, lm, dp]
  have nps : ∀ {x : Addr} {o : Ob}, S3 x = some o → (∀ l, o ≠ .dic l) → x ∉ [ps] := fun e n => by
    simp only [List.mem_cons, List.not_mem_nil, or_false]
    intro zz
    rw [zz, G3.sta] at e
    cases e
    exact n _ rfl
  have u : Upd [ps] S3 (put S3 ps (.dic (stD (ms ++ [⟨nm, m, p, q⟩])))) := Upd.at (by simp)
  refine k p q _ (K1.fresh' hp (by simp)) (K1.fresh' hq (by simp)) ⟨u _ _ (nps G3.ins (by simp)) G3.ins, put_same, u _ _ (by simpa using Ne.symm G3.ne) G3.poc, fun r hr => ?_, G3.ne, ?_⟩ (Upd.trans (Keeps.up (Upd.trans (Upd.trans K1 K2) K3)) u)
  · rcases List.mem_append.mp hr with hr | hr
    · exact (G3.mks r hr).up u (nps (G3.mks r hr).ins (by simp)) (nps (G3.mks r hr).lst (by simp))
    · rw [List.mem_singleton.mp hr]
      exact M3.up u (nps M3.ins (by simp)) (nps M3.lst (by simp))
  · rw [List.map_append, List.nodup_append]
    refine ⟨G3.qn, by simp, fun a ha b hb => ?_⟩
    rw [List.map_cons, List.map_nil, List.mem_singleton] at hb
    obtain ⟨r, hr, rfl⟩ := List.mem_map.mp ha
    intro zz
    have := (G1.mks r hr).lst
    rw [zz, hb, hq] at this
    cases this
def hwords (h : Hnd) : List Str := [Str.ofString "hand", h.nm, shI h.a, shI h.b]
theorem eqDic_no {ks : List (Key × D)} (h : ks ≠ []) : eqDic ks [] = some false := by
  unfold eqDic
  rw [if_neg (by simpa using h)]
theorem put_hand_yes {g ps pk w : Addr} {ms : List Mkr} {hs : List Hnd} {h : Hnd} {S : Sto} {Q : NQ} {E} {T : TgQ Q E} (G : MarketAt g ps pk ms hs S) (o : h.Ok) (hl : hs.length < 6) (hm : ms ≠ []) (hn : ∀ r ∈ hs, r.nm ≠ h.nm) (hw : S w = some (.lst ((hwords h).map D.str)))
    (k : ∀ S', MarketAt g ps pk ms (hs ++ [h]) S' → Upd [pk] S S' → Q (.bl true) S') : runF sp_put_hand [.ref g, .ref w] S Q E T := by
  obtain ⟨a0, a1, b0, b1⟩ := o
  simp_arith! [sp_put_hand, m_put_hand]
  have ln : decide ((((poD hs).length : Nat) : Int) = 6) = false := by
    unfold poD
    rw [List.length_map]
    exact decide_eq_false (by omega)
  have lm : (poD hs).length < sizeLine := by
    have : (64 : Nat) ≤ sizeLine := by decide
    unfold poD
    rw [List.length_map]
    omega
  have hw' : S w = some (.lst [.str "hand", .str h.nm, .str (shI h.a), .str (shI h.b)]) := hw
  have n4 : decide (((4 : Nat) : Int) = 4) = true := by decide
  have sne : stD ms ≠ [] := by
    unfold stD
    intro z
    exact hm (List.map_eq_nil_iff.mp z)
  simp_arith [hw', n4, Bool.not_true, G.ins, flds1, flds2, G.poc, ln, Option.map_some]
  intro z hz
  have K1 : Keeps S (put S z (.dic [])) := Upd.new hz
  have G1 := G.keep K1
  have gz : put S z (.dic []) z = some (.dic []) := put_same
  have w1 := K1 _ _ (by simp) hw'
  generalize put S z (.dic []) = S1 at *
  have at1 : atI ([.str "hand", .str h.nm, .str (shI h.a), .str (shI h.b)] : List D) 1 = some (.str h.nm) := rfl
  have at2 : atI ([.str "hand", .str h.nm, .str (shI h.a), .str (shI h.b)] : List D) 2 = some (.str (shI h.a)) := rfl
  have at3 : atI ([.str "hand", .str h.nm, .str (shI h.a), .str (shI h.b)] : List D) 3 = some (.str (shI h.b)) := rfl
  simp_arith [G1.sta, gz, eqDic_no sne, w1, at2]
  refine number_in_int a0 (by omega) fun S2 K2 => ?_
  have w2 := K2 _ _ (by simp) w1
  simp_arith [w2, at3]
  refine number_in_int b0 (by omega) fun S3 K3 => ?_
  have w3 := K3 _ _ (by simp) w2
  have G3 := (G1.keep K2).keep K3
  have fl : ([.int h.a, .int h.b] : List D).all flatD = true := rfl
  have an : ([.int h.a, .int h.b] : List D).any (fun d => eqF d .non) = false := rfl
  have fn : flatD .non = true := rfl
  have io : intsOf [.int h.b] = some [h.b] := rfl
  have mx : decide (1000000000000 < List.foldl max h.a [h.b]) = false := decide_eq_false (by
    show ¬ 1000000000000 < max h.a h.b
    omega)
  have dp : dput (poD hs) (.inr h.nm) (.tup [.int h.a, .int h.b]) = poD (hs ++ [h]) := by
    rw [dput_new (po_keys hn)]
    unfold poD
    rw [List.map_append]
    rfl
  simp_arith [fl, an, fn, io, mx, G3.ins, flds2, w3, at1, G3.poc, lm, dp]
  refine ⟨by decide, ?_⟩
  have npk : ∀ {x : Addr} {o : Ob}, S3 x = some o → (∀ l, o ≠ .dic l) → x ∉ [pk] := fun e n => by
    simp only [List.mem_cons, List.not_mem_nil, or_false]
    intro zz
    rw [zz, G3.poc] at e
    cases e
    exact n _ rfl
  have u : Upd [pk] S3 (put S3 pk (.dic (poD (hs ++ [h])))) := Upd.at (by simp)
  exact k _ ⟨u _ _ (npk G3.ins (by simp)) G3.ins, u _ _ (by simpa using G3.ne) G3.sta, put_same, fun r hr => (G3.mks r hr).up u (npk (G3.mks r hr).ins (by simp)) (npk (G3.mks r hr).lst (by simp)), G3.ne, G3.qn⟩ (Upd.trans (Keeps.up (Upd.trans (Upd.trans K1 K2) K3)) u)
theorem is_put_maker {g ps pk w : Addr} {ms : List Mkr} {nm : Str} {m : Mk} {S : Sto} {Q : NQ} {E} {T : TgQ Q E} (G : MarketAt g ps pk ms [] S) (o : m.Ok) (no : NameOk nm) (hl : ms.length < 6) (hn : ∀ r ∈ ms, r.nm ≠ nm) (hw : S w = some (.lst ((mwords nm m).map D.str)))
    (k : ∀ p q S', S p = Option.none → S q = Option.none → MarketAt g ps pk (ms ++ [⟨nm, m, p, q⟩]) [] S' → Upd [ps] S S' → Q (.bl true) S') : runF sp_is_put [.ref g, .ref w] S Q E T := by
  simp_arith! [sp_is_put, m_is_put]
  have l2 : decide (((((mwords nm m).map D.str).length : Nat) : Int) < 2) = false := by
    unfold mwords
    simp only [List.map_cons, List.length_cons]
    exact decide_eq_false (by omega)
  have at0 : atI ((mwords nm m).map D.str) 0 = some (.str "maker") := by
    unfold mwords
    exact atI_0 _ _
  have at1 : atI ((mwords nm m).map D.str) 1 = some (.str nm) := by
    unfold mwords
    exact atI_1 _ _ _
  simp_arith [hw, l2, at1]
  refine is_name_yes no fun S1 K1 => ?_
  have G1 := G.keep K1
  have w1 := K1 _ _ (by simp) hw
  have d1 := dget_none (st_keys hn)
  have d2 : dget (poD []) (.inr nm) = Option.none := rfl
  simp_arith [Bool.not_true, w1, at1, at0, G1.ins, flds1, flds2, G1.sta, G1.poc, d1, d2, Option.isSome_none, decide_true]
  exact put_maker_yes G1 o hl hn w1 fun p q S' hp hq G' u => k p q S' (K1.fresh' hp (by simp)) (K1.fresh' hq (by simp)) G' (K1.up.trans u)
theorem is_put_hand {g ps pk w : Addr} {ms : List Mkr} {hs : List Hnd} {h : Hnd} {S : Sto} {Q : NQ} {E} {T : TgQ Q E} (G : MarketAt g ps pk ms hs S) (o : h.Ok) (no : NameOk h.nm) (hl : hs.length < 6) (hm : ms ≠ []) (hn : ∀ r ∈ hs, r.nm ≠ h.nm) (hn2 : ∀ r ∈ ms, r.nm ≠ h.nm) (hw : S w = some (.lst ((hwords h).map D.str)))
    (k : ∀ S', MarketAt g ps pk ms (hs ++ [h]) S' → Upd [pk] S S' → Q (.bl true) S') : runF sp_is_put [.ref g, .ref w] S Q E T := by
  simp_arith! [sp_is_put, m_is_put]
  have hw' : S w = some (.lst [.str "hand", .str h.nm, .str (shI h.a), .str (shI h.b)]) := hw
  have l2 : decide (((4 : Nat) : Int) < 2) = false := by decide
  have at0 : atI ([.str "hand", .str h.nm, .str (shI h.a), .str (shI h.b)] : List D) 0 = some (.str "hand") := rfl
  have at1 : atI ([.str "hand", .str h.nm, .str (shI h.a), .str (shI h.b)] : List D) 1 = some (.str h.nm) := rfl
  simp_arith [hw', l2, at1]
  refine is_name_yes no fun S1 K1 => ?_
  have G1 := G.keep K1
  have w1 := K1 _ _ (by simp) hw'
  have d1 := dget_none (st_keys hn2)
  have d2 := dget_none (po_keys hn)
  have n1 : ("hand" = "maker") = False := by decide
  simp_arith [Bool.not_true, w1, at1, at0, G1.ins, flds1, flds2, G1.sta, G1.poc, d1, d2, Option.isSome_none, ofString_inj, n1, decide_false, decide_true]
  exact put_hand_yes G1 o hl hm hn w1 fun S' G' u => k S' G' (K1.up.trans u)
theorem market_init {g : Addr} {S : Sto} {Q : NQ} {E} {T : TgQ Q E} (hg : S g = some (.ins "Market" [])) (k : ∀ ps pk S', MarketAt g ps pk [] [] S' → S ps = Option.none → S pk = Option.none → Upd [g] S S' → Q .non S') : runF sp_Market___init__ [.ref g] S Q E T := by
  simp_arith! [sp_Market___init__, m_Market___init__]
  try simp_arith []
  intro ps hps
  have gps : g ≠ ps := fun z => by rw [← z, hg] at hps; cases hps
  have g1 : put S ps (.dic []) g = some (.ins "Market" []) := by rw [put_ne gps]; exact hg
  have p1 : putD "stalls" (.ref ps) ([] : List (Str × D)) = ([("stalls", .ref ps)] : List (Str × D)) := rfl
  simp_arith [g1, p1]
  refine ⟨by decide, fun pk hpk => ?_⟩
  have e1 : (put (put S ps (.dic [])) g (.ins "Market" [("stalls", .ref ps)])) ps = some (.dic []) := by rw [put_ne (Ne.symm gps), put_same]
  have e2 : (put (put S ps (.dic [])) g (.ins "Market" [("stalls", .ref ps)])) g = some (.ins "Market" [("stalls", .ref ps)]) := put_same
  have u1 : Upd [g] S (put (put S ps (.dic [])) g (.ins "Market" [("stalls", .ref ps)])) := (Upd.new hps).trans (Upd.at (by simp))
  generalize put (put S ps (.dic [])) g (.ins "Market" [("stalls", .ref ps)]) = S1 at *
  have u2 : Keeps S1 (put S1 pk (.dic [])) := Upd.new hpk
  have f1 := u2 _ _ (by simp) e1
  have f2 := u2 _ _ (by simp) e2
  have f3 : put S1 pk (.dic []) pk = some (.dic []) := put_same
  have gpk : g ≠ pk := fun z => by rw [z, hpk] at e2; cases e2
  have pp : ps ≠ pk := fun z => by rw [z, hpk] at e1; cases e1
  generalize put S1 pk (.dic []) = S2 at *
  rw [f2]
  have p2 : putD "pockets" (.ref pk) ([("stalls", .ref ps)] : List (Str × D)) = ([("stalls", .ref ps), ("pockets", .ref pk)] : List (Str × D)) := by simp [putD, ofString_inj]
  refine ⟨by simp, ?_⟩
  rw [p2]
  have u3 : Upd [g] S2 (put S2 g (.ins "Market" [("stalls", .ref ps), ("pockets", .ref pk)])) := Upd.at (by simp)
  exact k ps pk _ ⟨put_same, u3 _ _ (by simpa using Ne.symm gps) f1, u3 _ _ (by simpa using Ne.symm gpk) f3, (fun r hr => by cases hr), pp, List.nodup_nil⟩ hps (u1.fresh' hpk (by simpa using Ne.symm gpk)) ((u1.trans u2.up).trans u3)

/-! ### the signs of a market's text -/
structure WordOk (w : Str) : Prop where
  sp : 32 ∉ TL.tl w
  nl : 10 ∉ TL.tl w
  len : w.length ≤ 40
theorem mem_joinL {c : Nat} {S : List Nat} (hS : c ∉ S) : ∀ {ps : List (List Nat)}, (∀ p ∈ ps, c ∉ p) → c ∉ TL.joinL S ps
  | [], _ => by unfold TL.joinL; simp
  | [p], h => by unfold TL.joinL; exact h p (by simp)
  | p :: q :: r, h => by
    unfold TL.joinL
    rw [List.mem_append, List.mem_append]
    rintro (z | z | z)
    · exact h p (by simp) z
    · exact hS z
    · exact mem_joinL hS (fun x hx => h x (by simp at hx ⊢; right; exact hx)) z
theorem len_joinL {S : List Nat} {n : Nat} (hS : S.length ≤ 1) : ∀ {ps : List (List Nat)}, (∀ p ∈ ps, p.length ≤ n) → (TL.joinL S ps).length ≤ ps.length * (n + 1)
  | [], _ => by unfold TL.joinL; simp
  | [p], h => by
    unfold TL.joinL
    have := h p (by simp)
    simp; omega
  | p :: q :: r, h => by
    unfold TL.joinL
    have h1 := h p (by simp)
    have ih := len_joinL (n := n) hS (ps := q :: r) (fun x hx => h x (by simp at hx ⊢; right; exact hx))
    rw [List.length_append, List.length_append]
    simp only [List.length_cons] at ih ⊢
    rw [Nat.add_mul (r.length + 1) 1 (n + 1)]
    omega
def jo (ws : List Str) : Str := Txt.join (Str.ofString " ") ws
def li (rs : List Str) : Str := Txt.join (Str.ofString "\n") rs
theorem tl_sp : TL.tl (Str.ofString " ") = [32] := by rw [TL.tl_ofString]; decide
theorem tl_nl : TL.tl (Str.ofString "\n") = [10] := by rw [TL.tl_ofString]; decide
theorem split_jo {ws : List Str} (hne : ws ≠ []) (h : ∀ w ∈ ws, WordOk w) : Txt.split (jo ws) (Str.ofString " ") = ws := TL.split_join tl_sp (by decide +kernel) hne fun p hp => (h p hp).sp
theorem split_li {rs : List Str} (hne : rs ≠ []) (h : ∀ w ∈ rs, 10 ∉ TL.tl w) : Txt.split (li rs) (Str.ofString "\n") = rs := TL.split_join tl_nl (by decide +kernel) hne fun p hp => h p hp
theorem jo_nl {ws : List Str} (h : ∀ w ∈ ws, WordOk w) : 10 ∉ TL.tl (jo ws) := by
  unfold jo
  rw [TL.join_eq, TL.tl_join, tl_sp]
  exact mem_joinL (by simp) fun p hp => by
    obtain ⟨w, hw, rfl⟩ := List.mem_map.mp hp
    exact (h w hw).nl
theorem jo_len {ws : List Str} (h : ∀ w ∈ ws, WordOk w) (l : ws.length ≤ 8) : (jo ws).length ≤ 400 := by
  rw [TL.len_tl]
  unfold jo
  rw [TL.join_eq, TL.tl_join, tl_sp]
  have := len_joinL (S := [32]) (n := 40) (by simp) (ps := ws.map TL.tl) fun p hp => by
    obtain ⟨w, hw, rfl⟩ := List.mem_map.mp hp
    rw [← TL.len_tl]; exact (h w hw).len
  rw [List.length_map] at this
  omega
theorem li_len {rs : List Str} (h : ∀ w ∈ rs, w.length ≤ 400) (l : rs.length ≤ 12) : (li rs).length ≤ 5000 := by
  rw [TL.len_tl]
  unfold li
  rw [TL.join_eq, TL.tl_join, tl_nl]
  have := len_joinL (S := [10]) (n := 400) (by simp) (ps := rs.map TL.tl) fun p hp => by
    obtain ⟨w, hw, rfl⟩ := List.mem_map.mp hp
    rw [← TL.len_tl]; exact h w hw
  rw [List.length_map] at this
  omega
theorem letters : TL.tl (Str.ofString "abcdefghijklmnopqrstuvwxyz") = (List.range 26).map (· + 97) := by rw [TL.tl_ofString]; decide
theorem NameOk.word {z : Str} (h : NameOk z) : WordOk z := by
  have al : ∀ c ∈ TL.tl z, 97 ≤ c := by
    intro c hc
    have q := List.all_eq_true.mp h.all c hc
    have q := of_decide_eq_true q
    rw [letters] at q
    obtain ⟨i, _, rfl⟩ := List.mem_map.mp q
    omega
  exact ⟨fun z => by have := al _ z; omega, fun z => by have := al _ z; omega, by have := h.l2; omega⟩
theorem word_sh {i : Int} (h0 : 0 ≤ i) (h1 : i < 10000000000000) : WordOk (shI i) := by
  rw [shI_nat h0]
  exact ⟨sh_free (by omega), sh_free (by omega), by have := sh_len (n := i.toNat) (k := 13) (by decide) (by omega); omega⟩
theorem word_due {t b : Int} (d : Due t b) : WordOk (dueI t b) := by
  obtain ⟨t0, b1, b2, tb⟩ := d
  have w1 := word_sh t0 (by omega)
  have w2 := word_sh (by omega : 0 ≤ b) (by omega)
  have ts : TL.tl (Str.ofString "/") = [47] := by rw [TL.tl_ofString]; decide
  have l1 := sh_len (n := t.toNat) (k := 13) (by decide) (by omega)
  have l2 := sh_len (n := b.toNat) (k := 13) (by decide) (by omega)
  rw [← shI_nat t0] at l1
  rw [← shI_nat (by omega : 0 ≤ b)] at l2
  refine ⟨?_, ?_, ?_⟩
  · unfold dueI
    rw [TL.tl_append, TL.tl_append, ts, List.mem_append, List.mem_append]
    rintro ((z | z) | z)
    · exact w1.sp z
    · simp at z
    · exact w2.sp z
  · unfold dueI
    rw [TL.tl_append, TL.tl_append, ts, List.mem_append, List.mem_append]
    rintro ((z | z) | z)
    · exact w1.nl z
    · simp at z
    · exact w2.nl z
  · unfold dueI
    rw [TL.len_tl, TL.tl_append, TL.tl_append, ts, List.length_append, List.length_append, ← TL.len_tl, ← TL.len_tl]
    simp only [List.length_cons, List.length_nil]
    omega
theorem word_fix {s : String} (h1 : 32 ∉ s.toList.map Char.toNat) (h2 : 10 ∉ s.toList.map Char.toNat) (h3 : (s.toList.map Char.toNat).length ≤ 40) : WordOk (Str.ofString s) :=
  ⟨by rw [TL.tl_ofString]; exact h1, by rw [TL.tl_ofString]; exact h2, by rw [TL.len_tl, TL.tl_ofString]; exact h3⟩
theorem mwords_ok {nm : Str} {m : Mk} (no : NameOk nm) (o : m.Ok) : (∀ w ∈ mwords nm m, WordOk w) ∧ mwords nm m ≠ [] ∧ (mwords nm m).length ≤ 8 := by
  have q1 := o.s0; have q2 := o.s1; have q3 := o.c0; have q4 := o.c1
  have wm : WordOk m.word := by
    unfold Mk.word
    cases m.k <;> exact word_fix (by decide) (by decide) (by decide)
  have wt : (∀ w ∈ m.tails, WordOk w) ∧ m.tails.length ≤ 2 := by
    have st := o.st
    have su := o.su
    unfold Mk.tails
    cases hk : m.k with
    | pr => exact ⟨by simp, by simp⟩
    | st =>
      obtain ⟨x0, x1, y0, y1, _, _⟩ := st hk
      refine ⟨fun w hw => ?_, by simp⟩
      simp only [List.mem_cons, List.not_mem_nil, or_false] at hw
      rcases hw with rfl | rfl <;> exact word_sh (by omega) (by omega)
    | su =>
      obtain ⟨x0, x1, y0, y1⟩ := su hk
      refine ⟨fun w hw => ?_, by simp⟩
      simp only [List.mem_cons, List.not_mem_nil, or_false] at hw
      rcases hw with rfl | rfl <;> exact word_sh (by omega) (by omega)
  refine ⟨fun w hw => ?_, by unfold mwords; simp, by unfold mwords; simp only [List.length_cons]; have := wt.2; omega⟩
  unfold mwords at hw
  simp only [List.mem_cons] at hw
  rcases hw with rfl | rfl | rfl | rfl | rfl | rfl | hw
  · exact word_fix (by decide) (by decide) (by decide)
  · exact no.word
  · exact wm
  · exact word_sh q1 (by omega)
  · exact word_sh q3 (by omega)
  · exact word_due o.due
  · exact wt.1 w hw
theorem hwords_ok {h : Hnd} (no : NameOk h.nm) (o : h.Ok) : (∀ w ∈ hwords h, WordOk w) ∧ hwords h ≠ [] ∧ (hwords h).length ≤ 8 := by
  obtain ⟨a0, a1, b0, b1⟩ := o
  refine ⟨fun w hw => ?_, by unfold hwords; simp, by unfold hwords; simp⟩
  unfold hwords at hw
  simp only [List.mem_cons, List.not_mem_nil, or_false] at hw
  rcases hw with rfl | rfl | rfl | rfl
  · exact word_fix (by decide) (by decide) (by decide)
  · exact no.word
  · exact word_sh a0 (by omega)
  · exact word_sh b0 (by omega)

/-! ### a market is read -/
def rowM (x : Str × Mk) : Str := jo (mwords x.1 x.2)
def rowH (h : Hnd) : Str := jo (hwords h)
def mtext (ms : List (Str × Mk)) (hs : List Hnd) : Str := li (ms.map rowM ++ hs.map rowH)
structure MTxt (ms : List (Str × Mk)) (hs : List Hnd) : Prop where
  m0 : ms ≠ []
  m6 : ms.length ≤ 6
  h6 : hs.length ≤ 6
  mo : ∀ x ∈ ms, x.2.Ok ∧ NameOk x.1
  ho : ∀ h ∈ hs, h.Ok ∧ NameOk h.nm
  nd : (ms.map (·.1) ++ hs.map (·.nm)).Nodup
theorem MTxt.rows {ms : List (Str × Mk)} {hs : List Hnd} (T : MTxt ms hs) : ∀ r ∈ ms.map rowM ++ hs.map rowH, 10 ∉ TL.tl r ∧ r.length ≤ 400 := by
  intro r hr
  rcases List.mem_append.mp hr with hr | hr
  · obtain ⟨x, hx, rfl⟩ := List.mem_map.mp hr
    obtain ⟨o, no⟩ := T.mo x hx
    obtain ⟨w1, w2, w3⟩ := mwords_ok no o
    exact ⟨jo_nl w1, jo_len w1 w3⟩
  · obtain ⟨x, hx, rfl⟩ := List.mem_map.mp hr
    obtain ⟨o, no⟩ := T.ho x hx
    obtain ⟨w1, w2, w3⟩ := hwords_ok no o
    exact ⟨jo_nl w1, jo_len w1 w3⟩
theorem MTxt.split {ms : List (Str × Mk)} {hs : List Hnd} (T : MTxt ms hs) : Txt.split (mtext ms hs) (Str.ofString "\n") = ms.map rowM ++ hs.map rowH :=
  split_li (by simp [T.m0]) fun w hw => (T.rows w hw).1
theorem MTxt.len {ms : List (Str × Mk)} {hs : List Hnd} (T : MTxt ms hs) : (mtext ms hs).length ≤ 5000 :=
  li_len (fun w hw => (T.rows w hw).2) (by have := T.m6; have := T.h6; simp; omega)
def Mkr.two (r : Mkr) : Str × Mk := (r.nm, r.m)
theorem upd_drop0 {B : List Addr} {S S' : Sto} (u : Upd B S S') (h : ∀ p ∈ B, S p = Option.none) : Keeps S S' := fun a o _ e => u a o (fun hb => by
  have := h a hb
  rw [e] at this
  cases this) e
theorem read_ok {ms : List (Str × Mk)} {hs : List Hnd} {S0 : Sto} {Q : NQ} {E} {T : TgQ Q E} (X : MTxt ms hs) (k : ∀ g ps pk rs S', rs.map Mkr.two = ms → MarketAt g ps pk rs hs S' → S0 g = Option.none → S0 ps = Option.none → S0 pk = Option.none → (∀ r ∈ rs, S0 r.p = Option.none ∧ S0 r.q = Option.none) → Keeps S0 S' → Q (.ref g) S') : runF sp_read [.str (mtext ms hs)] S0 Q E T := by
  simp_arith! [sp_read, m_read]
  have sl : (10000 : Nat) ≤ sizeLine := by decide
  have ln := X.len
  have e1 : ((Str.ofString "\n").length == 0) = false := by decide
  have ls : (mtext ms hs).length + 2 ≤ sizeLine := by omega
  simp_arith [isi_str_str, Bool.not_true]
  intro g hg
  refine market_init put_same fun ps pk S1 G1 hps hpk u1 => ?_
  refine ⟨rfl, ?_⟩
  have kp1 : Keeps S0 S1 := keeps_of ((Upd.at (by simp)).trans u1) hg
  have nps : S0 ps = Option.none := (Upd.at (A := [g]) (o := .ins "Market" []) (by simp)).fresh' hps (by
    simp only [List.mem_cons, List.not_mem_nil, or_false]
    intro z
    rw [z, put_same] at hps
    cases hps)
  have npk : S0 pk = Option.none := (Upd.at (A := [g]) (o := .ins "Market" []) (by simp)).fresh' hpk (by
    simp only [List.mem_cons, List.not_mem_nil, or_false]
    intro z
    rw [z, put_same] at hpk
    cases hpk)
  simp_arith [e1, ls, X.split]
  intro pl hpl
  have K2 : Keeps S1 (put S1 pl (.lst ((ms.map rowM ++ hs.map rowH).map D.str))) := Upd.new hpl
  have G2 := G1.keep K2
  have g2 : put S1 pl (.lst ((ms.map rowM ++ hs.map rowH).map D.str)) pl = some (.lst ((ms.map rowM ++ hs.map rowH).map D.str)) := put_same
  have kp2 : Keeps S0 (put S1 pl (.lst ((ms.map rowM ++ hs.map rowH).map D.str))) := kp1.trans K2
  generalize put S1 pl (.lst ((ms.map rowM ++ hs.map rowH).map D.str)) = S2 at *
  simp_arith [g2]
  have e3 : ((Str.ofString " ").length == 0) = false := by decide
  have plm : pl ∉ [ps, pk] := by
    simp only [List.mem_cons, List.not_mem_nil, or_false, not_or]
    exact ⟨fun z => (by rw [z, G2.sta] at g2; cases g2), fun z => (by rw [z, G2.poc] at g2; cases g2)⟩
  refine runL_invL (fun xs e S => (∃ x2 x3, e = [some (.str (mtext ms hs)), some (.ref g), x2, x3]) ∧ S pl = some (.lst ((ms.map rowM ++ hs.map rowH).map D.str)) ∧ Upd [ps, pk] S2 S ∧ ∃ (i : Nat) (rm : List (Str × Mk)) (rh : List Hnd) (done : List Mkr) (dh : List Hnd), xs = enumD ((rm.map rowM ++ rh.map rowH).map D.str) i ∧ done.map Mkr.two ++ rm = ms ∧ dh ++ rh = hs ∧ (rm ≠ [] → dh = []) ∧ (∀ r ∈ done, S0 r.p = Option.none ∧ S0 r.q = Option.none) ∧ MarketAt g ps pk done dh S)
    (fun xs e S h => h.2.1) (fun e S h => ?_) (fun x xs e S C h hC => ?_) ?_
  · obtain ⟨⟨x2, x3, rfl⟩, hp, u, i, rm, rh, done, dh, ex, em, eh, -, fr, G⟩ := h
    have rm0 : rm = [] := by
      cases rm with
      | nil => rfl
      | cons y r => simp [enumD] at ex
    subst rm0
    have rh0 : rh = [] := by
      cases rh with
      | nil => rfl
      | cons y r => simp [enumD] at ex
    subst rh0
    rw [List.append_nil] at em eh
    subst eh
    simp_arith []
    refine k g ps pk done S em G hg nps npk fr fun a o n e => u a o ?_ (kp2 a o n e)
    simp only [List.mem_cons, List.not_mem_nil, or_false, not_or]
    exact ⟨fun z => (by rw [z, nps] at e; cases e), fun z => (by rw [z, npk] at e; cases e)⟩
  · obtain ⟨⟨x2, x3, rfl⟩, hp, u, i, rm, rh, done, dh, ex, em, eh, hd, fr, G⟩ := h
    cases rm with
    | cons y rm =>
      have d0 := hd (by simp)
      subst d0
      simp only [List.map_cons, List.cons_append, enumD] at ex
      obtain ⟨rfl, rfl⟩ := List.cons.inj ex
      have ym : y ∈ ms := by rw [← em]; simp
      obtain ⟨o, no⟩ := X.mo y ym
      obtain ⟨w1, w2, w3⟩ := mwords_ok no o
      have lr := jo_len w1 w3
      have lr' : (rowM y).length + 2 ≤ sizeLine := by unfold rowM; omega
      have sp : Txt.split (rowM y) (Str.ofString " ") = mwords y.1 y.2 := split_jo w2 w1
      have dl : done.length < 6 := by
        have := X.m6
        rw [← em] at this
        simp at this
        omega
      have dn : ∀ r ∈ done, r.nm ≠ y.1 := by
        intro r hr z
        have nd := X.nd
        rw [← em, List.map_append, List.append_assoc, List.nodup_append] at nd
        have q := nd.2.2 r.nm (List.mem_map.mpr ⟨r.two, List.mem_map.mpr ⟨r, hr, rfl⟩, rfl⟩) y.1 (by simp)
        exact q z
      simp_arith [e3, lr', sp]
      intro w hw
      have K3 : Keeps S (put S w (.lst ((mwords y.1 y.2).map D.str))) := Upd.new hw
      have gw : put S w (.lst ((mwords y.1 y.2).map D.str)) w = some (.lst ((mwords y.1 y.2).map D.str)) := put_same
      have hp3 := K3 _ _ (by simp) hp
      have G3 := G.keep K3
      generalize put S w (.lst ((mwords y.1 y.2).map D.str)) = S3 at *
      have kk : Keeps S0 S3 := upd_drop0 ((Keeps.up kp2).trans (u.trans K3.up)) (fun p hp => by
        simp only [List.mem_cons, List.not_mem_nil, or_false] at hp
        rcases hp with rfl | rfl
        · exact nps
        · exact npk)
      refine is_put_maker G3 o no dl dn gw fun p q S4 hp4 hq4 G4 u4 => ?_
      simp_arith [Bool.not_true]
      refine hC _ _ ⟨⟨_, _, rfl⟩, u4 _ _ (fun z => plm (by simp at z ⊢; exact .inl z)) hp3, (u.trans K3.up).trans (u4.mono (by simp)), i + 1, rm, rh, done ++ [⟨y.1, y.2, p, q⟩], [], rfl, ?_, eh, fun _ => rfl, fun r hr => ?_, G4⟩
      · rw [← em, List.map_append, List.append_assoc]
        rfl
      · rcases List.mem_append.mp hr with hr | hr
        · exact fr r hr
        · rw [List.mem_singleton.mp hr]
          exact ⟨kk.fresh' hp4 (by simp), kk.fresh' hq4 (by simp)⟩
    | nil =>
      cases rh with
      | nil => simp [enumD] at ex
      | cons y rh =>
        simp only [List.map_nil, List.nil_append, List.map_cons, enumD] at ex
        obtain ⟨rfl, rfl⟩ := List.cons.inj ex
        rw [List.append_nil] at em
        have ym : y ∈ hs := by rw [← eh]; simp
        obtain ⟨o, no⟩ := X.ho y ym
        obtain ⟨w1, w2, w3⟩ := hwords_ok no o
        have lr := jo_len w1 w3
        have lr' : (rowH y).length + 2 ≤ sizeLine := by unfold rowH; omega
        have sp : Txt.split (rowH y) (Str.ofString " ") = hwords y := split_jo w2 w1
        have dl : dh.length < 6 := by
          have := X.h6
          rw [← eh] at this
          simp at this
          omega
        have nd := X.nd
        rw [← em, ← eh, List.map_append, List.nodup_append] at nd
        have dn : ∀ r ∈ dh, r.nm ≠ y.nm := by
          intro r hr z
          have q := nd.2.1
          rw [List.nodup_append] at q
          exact q.2.2 r.nm (List.mem_map.mpr ⟨r, hr, rfl⟩) y.nm (by simp) z
        have dn2 : ∀ r ∈ done, r.nm ≠ y.nm := by
          intro r hr z
          exact nd.2.2 r.nm (List.mem_map.mpr ⟨r.two, List.mem_map.mpr ⟨r, hr, rfl⟩, rfl⟩) y.nm (by simp) z
        have d0 : done ≠ [] := by
          intro z
          rw [z] at em
          exact X.m0 em.symm
        simp_arith [e3, lr', sp]
        intro w hw
        have K3 : Keeps S (put S w (.lst ((hwords y).map D.str))) := Upd.new hw
        have gw : put S w (.lst ((hwords y).map D.str)) w = some (.lst ((hwords y).map D.str)) := put_same
        have hp3 := K3 _ _ (by simp) hp
        have G3 := G.keep K3
        generalize put S w (.lst ((hwords y).map D.str)) = S3 at *
        refine is_put_hand G3 o no dl d0 dn dn2 gw fun S4 G4 u4 => ?_
        simp_arith [Bool.not_true]
        refine hC _ _ ⟨⟨_, _, rfl⟩, u4 _ _ (fun z => plm (by simp at z ⊢; exact .inr z)) hp3, (u.trans K3.up).trans (u4.mono (by simp)), i + 1, [], rh, done, dh ++ [y], rfl, by rw [List.append_nil]; exact em, by rw [← eh, List.append_assoc]; rfl, fun z => absurd rfl z, fr, G4⟩
  · exact ⟨⟨_, _, rfl⟩, g2, Upd.refl, 0, ms, hs, [], [], rfl, rfl, rfl, fun _ => rfl, (fun r hr => by cases hr), G2⟩

/-! ### rows are written -/
theorem strsM : ∀ ws : List Str, strsOf (ws.map D.str) = some ws
  | [] => rfl
  | x :: r => by
    show (strsOf (r.map D.str)).map (x :: ·) = some (x :: r)
    rw [strsM r]; rfl
theorem sum_le {ws : List Str} {n : Nat} (h : ∀ w ∈ ws, w.length ≤ n) : (ws.map (·.length)).sum ≤ ws.length * n := by
  induction ws with
  | nil => simp
  | cons w r ih =>
    have h1 := h w (by simp)
    have h2 := ih fun x hx => h x (by simp [hx])
    simp only [List.map_cons, List.sum_cons, List.length_cons]
    rw [Nat.add_mul]
    omega
theorem cut_n4 (a b c d : D) (r : List D) : cutD (a :: b :: c :: d :: r) Option.none (some 4) = [a, b, c, d] := by
  unfold cutD
  have h2 : HT.sIx (a :: b :: c :: d :: r).length (a :: b :: c :: d :: r).length (some 4) = 4 := (HT.sIx_nat _ _ 4).trans (Nat.min_eq_left (by simp only [List.length_cons]; omega))
  rw [h2, HT.sIx_none]; rfl
theorem nat1900 {i : Int} (h : i.natAbs < 2 ^ 60) : i.natAbs < 2 ^ 1900 := Nat.lt_of_lt_of_le h (Nat.pow_le_pow_right (by decide) (by decide))
theorem jo_size {ws : List Str} (h : ∀ w ∈ ws, WordOk w) (l : ws.length ≤ 8) : (ws.map (·.length)).sum + ws.length * (Str.ofString " ").length ≤ sizeLine := by
  have a := sum_le fun w hw => (h w hw).len
  have e : (Str.ofString " ").length = 1 := by decide
  have sl : (10000 : Nat) ≤ sizeLine := by decide
  rw [e]
  omega
theorem maker_row_ok {nm : Str} {m : Mk} {S : Sto} {Q : NQ} {E} {T : TgQ Q E} (no : NameOk nm) (o : m.Ok) (k : ∀ S', Keeps S S' → Q (.str (rowM (nm, m))) S') : runF sp_maker_row [.str nm, m.d] S Q E T := by
  simp_arith! [sp_maker_row, m_maker_row]
  have q1 := o.s0; have q2 := o.s1; have q3 := o.c0; have q4 := o.c1
  obtain ⟨t0, b1, b2, tb⟩ := o.due
  have n1 : m.s.natAbs < 2 ^ 1900 := nat1900 (by omega)
  have n2 : m.c.natAbs < 2 ^ 1900 := nat1900 (by omega)
  have n3 : m.t.natAbs < 2 ^ 1900 := nat1900 (by omega)
  have n4 : m.b.natAbs < 2 ^ 1900 := nat1900 (by omega)
  have sl : (10000 : Nat) ≤ sizeLine := by decide
  obtain ⟨w1, w2, w3⟩ := mwords_ok no o
  have js := jo_size w1 w3
  have wd := (word_due o.due).len
  have wt := (word_sh t0 (by omega)).len
  have wb := (word_sh (by omega : 0 ≤ m.b) (by omega)).len
  have es : (Str.ofString "/").length = 1 := by decide
  have ea : ∀ a b : Str, (a ++ b).length = a.length + b.length := fun a b => by rw [TL.len_tl, TL.tl_append, List.length_append, ← TL.len_tl, ← TL.len_tl]
  rw [md m]
  simp_arith [cut_n4, cut_4, n1, n2, n3, n4, atI_0, atI_1]
  have h1 : (Str.ofString (toString m.t)).length + (Str.ofString "/").length ≤ sizeLine := by
    show (shI m.t).length + _ ≤ _
    omega
  have h2 : (Str.ofString (toString m.t) ++ Str.ofString "/").length + (Str.ofString (toString m.b)).length ≤ sizeLine := by
    rw [ea]
    show (shI m.t).length + _ + (shI m.b).length ≤ _
    omega
  refine ⟨h1, h2, fun p hp => ?_⟩
  have K1 : Keeps S (put S p (.lst [.str "maker", .str nm, .str m.word, .str (shI m.s), .str (shI m.c), .str (dueI m.t m.b)])) := Upd.new hp
  have g1 : put S p (.lst [.str "maker", .str nm, .str m.word, .str (shI m.s), .str (shI m.c), .str (dueI m.t m.b)]) p = some (.lst [.str "maker", .str nm, .str m.word, .str (shI m.s), .str (shI m.c), .str (dueI m.t m.b)]) := put_same
  show runL _ _ _ _ _ _ (put S p (.lst [.str "maker", .str nm, .str m.word, .str (shI m.s), .str (shI m.c), .str (dueI m.t m.b)])) _
  have e6 : mwords nm m = [Str.ofString "maker", nm, m.word, shI m.s, shI m.c, dueI m.t m.b] ++ m.tails := rfl
  refine runL_invL (fun xs e S2 => (∃ x7, e = [some (.str nm), some m.d, some (.str m.word), some (.int m.s), some (.int m.c), some (.tup [.int m.t, .int m.b]), some (.ref p), x7]) ∧ Keeps S S2 ∧ ((xs = [] ∧ S2 p = some (.lst ((mwords nm m).map D.str))) ∨ (xs = m.more ∧ xs ≠ [] ∧ S2 p = some (.lst [.str "maker", .str nm, .str m.word, .str (shI m.s), .str (shI m.c), .str (dueI m.t m.b)]))))
    (fun xs e S2 h => trivial) (fun e S2 h => ?_) (fun x xs e S2 C h hC => ?_) ?_
  · obtain ⟨⟨x7, rfl⟩, K, ⟨_, g2⟩ | ⟨_, z, _⟩⟩ := h
    · simp_arith [g2]
      rw [strsM]
      refine ⟨js, k S2 K⟩
    · exact absurd rfl z
  · obtain ⟨⟨x7, rfl⟩, K, ⟨z, _⟩ | ⟨ex, _, g2⟩⟩ := h
    · cases z
    have nr : m.k ≠ .pr := by
      intro hk
      unfold Mk.more at ex
      rw [hk] at ex
      cases ex
    have tl : m.tails = [shI m.x, shI m.y] := by
      unfold Mk.tails
      cases hk : m.k with
      | pr => exact absurd hk nr
      | st => rfl
      | su => rfl
    have mo : m.more = [.tup [.int m.x, .int m.y]] := by
      unfold Mk.more
      cases hk : m.k with
      | pr => exact absurd hk nr
      | st => rfl
      | su => rfl
    rw [mo] at ex
    obtain ⟨rfl, rfl⟩ := List.cons.inj ex
    have xy : 0 ≤ m.x ∧ m.x ≤ 1000000000000 ∧ 0 ≤ m.y ∧ m.y ≤ 1000000000000 := by
      cases hk : m.k with
      | pr => exact absurd hk nr
      | st => obtain ⟨x0, x1, y0, y1, _, _⟩ := o.st hk; exact ⟨x0, x1, y0, y1⟩
      | su => obtain ⟨x0, x1, y0, y1⟩ := o.su hk; exact ⟨by omega, by omega, by omega, by omega⟩
    have n5 : m.x.natAbs < 2 ^ 1900 := nat1900 (by omega)
    have n6 : m.y.natAbs < 2 ^ 1900 := nat1900 (by omega)
    have at0 : atI ([.int m.x, .int m.y] : List D) 0 = some (.int m.x) := rfl
    have at1 : atI ([.int m.x, .int m.y] : List D) 1 = some (.int m.y) := rfl
    simp_arith [n5, n6, at0, at1]
    refine ⟨⟨_, _, rfl, g2⟩, fun z hz => ?_⟩
    have K2 : Keeps S2 (put S2 z (.lst [.str (shI m.x), .str (shI m.y)])) := Upd.new hz
    have g3 := K2 _ _ (by simp) g2
    have g4 : put S2 z (.lst [.str (shI m.x), .str (shI m.y)]) z = some (.lst [.str (shI m.x), .str (shI m.y)]) := put_same
    show match put S2 z (.lst [.str (shI m.x), .str (shI m.y)]) p, put S2 z (.lst [.str (shI m.x), .str (shI m.y)]) z with
      | some (.lst ds), some (.lst es) => _
      | _, _ => False
    rw [g3, g4]
    refine ⟨by show (8 : Nat) ≤ sizeLine; decide, hC _ _ ⟨⟨_, rfl⟩, keeps_of (Upd.trans (Keeps.up (Upd.trans K K2)) (Upd.at (by simp))) hp, .inl ⟨rfl, ?_⟩⟩⟩
    rw [put_same, e6, tl]
    rfl
  · refine ⟨⟨_, by rw [← md m]⟩, K1, ?_⟩
    cases hk : m.k with
    | pr =>
      left
      refine ⟨by unfold Mk.more; rw [hk], ?_⟩
      rw [g1, e6]
      unfold Mk.tails
      rw [hk]
      rfl
    | st =>
      right
      exact ⟨rfl, by unfold Mk.more; rw [hk]; simp, g1⟩
    | su =>
      right
      exact ⟨rfl, by unfold Mk.more; rw [hk]; simp, g1⟩
theorem hand_row_ok {h : Hnd} {S : Sto} {Q : NQ} {E} {T : TgQ Q E} (no : NameOk h.nm) (o : h.Ok) (k : ∀ S', Keeps S S' → Q (.str (rowH h)) S') : runF sp_hand_row [.str h.nm, .tup [.int h.a, .int h.b]] S Q E T := by
  simp_arith! [sp_hand_row, m_hand_row]
  obtain ⟨w1, w2, w3⟩ := hwords_ok no o
  have js := jo_size w1 w3
  obtain ⟨a0, a1, b0, b1⟩ := o
  have n1 : h.a.natAbs < 2 ^ 1900 := nat1900 (by omega)
  have n2 : h.b.natAbs < 2 ^ 1900 := nat1900 (by omega)
  have at0 : atI ([.int h.a, .int h.b] : List D) 0 = some (.int h.a) := rfl
  have at1 : atI ([.int h.a, .int h.b] : List D) 1 = some (.int h.b) := rfl
  simp_arith [n1, n2, at0, at1]
  intro p hp
  have K1 : Keeps S (put S p (.lst ((hwords h).map D.str))) := Upd.new hp
  have e : strsOf [.str "hand", .str h.nm, .str (Str.ofString (toString h.a)), .str (Str.ofString (toString h.b))] = some (hwords h) := strsM (hwords h)
  rw [put_same]
  dsimp only
  rw [e]
  exact ⟨js, k _ K1⟩

/-! ### things of known kinds -/
def Kn (S : Sto) : D → Prop
  | .non => True
  | .bl _ => True
  | .int _ => True
  | .str _ => True
  | .tup _ => True
  | .ref a => (∃ ds, S a = some (.lst ds)) ∨ ∃ ks, S a = some (.dic ks)
  | _ => False
def isI : D → Bool | .int _ => true | .bl _ => true | _ => false
def isB : D → Bool | .bl _ => true | _ => false
def isS : D → Bool | .str _ => true | _ => false
def isTu : D → Bool | .tup _ => true | _ => false
theorem kn_int {S : Sto} {d : D} (h : Kn S d) (Q : NQ) : nIsi CL [d, .ty "int"] S Q = Q (.bl (isI d)) S := by
  cases d with
  | non => exact isi_non_int S Q
  | bl b => exact isi_bl_int b S Q
  | int i => exact isi_int_int i S Q
  | str x => exact isi_str_int x S Q
  | tup ds => exact isi_tup_int ds S Q
  | ref a => rcases h with ⟨ds, h⟩ | ⟨ds, h⟩ <;> first | exact isi_lst_int ds Q h | exact isi_dic_int ds Q h
  | _ => exact h.elim
theorem kn_bool {S : Sto} {d : D} (h : Kn S d) (Q : NQ) : nIsi CL [d, .ty "bool"] S Q = Q (.bl (isB d)) S := by
  cases d with
  | non => exact isi_non_bool S Q
  | bl b => exact isi_bl_bool b S Q
  | int i => exact isi_int_bool i S Q
  | str x => exact isi_str_bool x S Q
  | tup ds => exact isi_tup_bool ds S Q
  | ref a => rcases h with ⟨ds, h⟩ | ⟨ds, h⟩ <;> first | exact isi_lst_bool ds Q h | exact isi_dic_bool ds Q h
  | _ => exact h.elim
theorem kn_str {S : Sto} {d : D} (h : Kn S d) (Q : NQ) : nIsi CL [d, .ty "str"] S Q = Q (.bl (isS d)) S := by
  cases d with
  | non => exact isi_non_str S Q
  | bl b => exact isi_bl_str b S Q
  | int i => exact isi_int_str i S Q
  | str x => exact isi_str_str x S Q
  | tup ds => exact isi_tup_str ds S Q
  | ref a => rcases h with ⟨ds, h⟩ | ⟨ds, h⟩ <;> first | exact isi_lst_str ds Q h | exact isi_dic_str ds Q h
  | _ => exact h.elim
theorem kn_tuple {S : Sto} {d : D} (h : Kn S d) (Q : NQ) : nIsi CL [d, .ty "tuple"] S Q = Q (.bl (isTu d)) S := by
  cases d with
  | non => exact isi_non_tuple S Q
  | bl b => exact isi_bl_tuple b S Q
  | int i => exact isi_int_tuple i S Q
  | str x => exact isi_str_tuple x S Q
  | tup ds => exact isi_tup_tuple ds S Q
  | ref a => rcases h with ⟨ds, h⟩ | ⟨ds, h⟩ <;> first | exact isi_lst_tuple ds Q h | exact isi_dic_tuple ds Q h
  | _ => exact h.elim
/-- a number from a to b -/
def inR (d : D) (a b : Int) : Bool := match d with
  | .int i => decide (a ≤ i) && decide (i ≤ b)
  | _ => false
theorem is_whole_kn {S : Sto} {d : D} (h : Kn S d) {Q : NQ} {E} {T : TgQ Q E} : runF sp_is_whole [d] S Q E T = Q (.bl (isI d && !isB d)) S := by
  simp_arith! [sp_is_whole, m_is_whole]
  simp_arith [kn_int h, kn_bool h]
  cases isI d <;> rfl
theorem is_among_kn {S : Sto} {d : D} {a b : Int} (h : Kn S d) {Q : NQ} {E} {T : TgQ Q E} : runF sp_is_among [d, .int a, .int b] S Q E T = Q (.bl (inR d a b)) S := by
  simp_arith! [sp_is_among, m_is_among]
  simp_arith [is_whole_kn h]
  cases d with
  | int i =>
    simp_arith [isI, isB, Bool.not_false, Bool.and_self, inR]
    cases decide (a ≤ i) <;> rfl
  | bl b => rfl
  | _ => rfl
def pairB (d : D) (a b : Int) : Bool := match d with
  | .tup [x, y] => inR x a b && inR y a b
  | _ => false
/-- a thing whose parts are known -/
def Kn2 (S : Sto) (d : D) : Prop := Kn S d ∧ ∀ ds, d = .tup ds → ds.length ≤ sizeLine ∧ ∀ x ∈ ds, Kn S x
theorem Kn2.up {S S' : Sto} {d : D} (u : Keeps S S') (h : Kn2 S d) : Kn2 S' d := by
  have key : ∀ d, Kn S d → Kn S' d := by
    intro d h
    cases d with
    | ref a =>
      rcases h with ⟨ds, h⟩ | ⟨ds, h⟩
      · exact .inl ⟨ds, u a _ (by simp) h⟩
      · exact .inr ⟨ds, u a _ (by simp) h⟩
    | _ => exact h
  exact ⟨key _ h.1, fun ds e => ⟨(h.2 ds e).1, fun x hx => key x ((h.2 ds e).2 x hx)⟩⟩
theorem is_pair_kn {S : Sto} {d : D} {a b : Int} (h : Kn2 S d) {Q : NQ} {E} {T : TgQ Q E} : runF sp_is_pair [d, .int a, .int b] S Q E T = Q (.bl (pairB d a b)) S := by
  simp_arith! [sp_is_pair, m_is_pair]
  simp_arith [kn_tuple h.1]
  cases d with
  | tup ds =>
    have k := (h.2 ds rfl).2
    simp_arith [isTu, Bool.not_true]
    match ds, k with
    | [], _ => rfl
    | [x], _ => rfl
    | [x, y], k =>
      have e : decide (((0 + 1 + 1 : Nat) : Int) = 2) = true := by decide
      simp_arith [e, Bool.not_true, atI_0, atI_1, is_among_kn (k x (by simp)), is_among_kn (k y (by simp)), pairB]
      cases inR x a b <;> rfl
    | x :: y :: z :: r, _ =>
      have e : decide ((((x :: y :: z :: r).length : Nat) : Int) = 2) = false := decide_eq_false (by simp only [List.length_cons]; omega)
      simp only [e, Bool.not_false]
      rfl
  | _ => rfl
theorem pairB_true {d : D} {a b : Int} (h : pairB d a b = true) : ∃ x y, d = .tup [.int x, .int y] ∧ a ≤ x ∧ x ≤ b ∧ a ≤ y ∧ y ≤ b := by
  unfold pairB at h
  split at h
  · rename_i x y
    rw [Bool.and_eq_true] at h
    obtain ⟨h1, h2⟩ := h
    unfold inR at h1 h2
    split at h1
    · split at h2
      · rw [Bool.and_eq_true, decide_eq_true_eq, decide_eq_true_eq] at h1 h2
        exact ⟨_, _, rfl, h1.1, h1.2, h2.1, h2.2⟩
      · cases h2
    · cases h1
  · cases h
theorem pairB_int {x y a b : Int} : pairB (.tup [.int x, .int y]) a b = ((decide (a ≤ x) && decide (x ≤ b)) && (decide (a ≤ y) && decide (y ≤ b))) := rfl
def dueB (d : D) : Bool := match d with
  | .tup [.int t, .int b] => ((decide (0 ≤ t) && decide (t ≤ 10000)) && (decide (0 ≤ b) && decide (b ≤ 10000))) && (decide (1 ≤ b) && decide (10 * t ≤ b))
  | _ => false
theorem dueB_true {d : D} (h : dueB d = true) : ∃ t b, d = .tup [.int t, .int b] ∧ Due t b := by
  unfold dueB at h
  split at h
  · simp only [Bool.and_eq_true, decide_eq_true_eq] at h
    obtain ⟨⟨⟨h1, h2⟩, h3, h4⟩, h5, h6⟩ := h
    exact ⟨_, _, rfl, h1, h5, h4, h6⟩
  · cases h
theorem dueB_pair {d : D} (h : pairB d 0 10000 = false) : dueB d = false := by
  cases e : dueB d with
  | false => rfl
  | true =>
    obtain ⟨t, b, rfl, du⟩ := dueB_true e
    obtain ⟨t0, b1, b2, tb⟩ := du
    rw [pairB_int] at h
    have e1 : t ≤ 10000 := by omega
    have e2 : 0 ≤ b := by omega
    simp only [t0, e1, e2, b2, decide_true, Bool.and_self, Bool.true_eq_false] at h
theorem is_due_kn {S : Sto} {d : D} (h : Kn2 S d) {Q : NQ} {E} {T : TgQ Q E} : runF sp_is_due [d] S Q E T = Q (.bl (dueB d)) S := by
  cases hp : pairB d 0 10000 with
  | false =>
    simp_arith! [sp_is_due, m_is_due]
    simp_arith [is_pair_kn h, hp, dueB_pair hp]
  | true =>
    obtain ⟨t, b, rfl, -⟩ := pairB_true hp
    rw [is_due_int]; rfl
def Kn3 (S : Sto) (d : D) : Prop := Kn S d ∧ ∀ ds, d = .tup ds → ds.length ≤ sizeLine ∧ ∀ x ∈ ds, Kn2 S x
theorem kn_pair {S : Sto} {x y : D} (h1 : Kn S x) (h2 : Kn S y) : Kn2 S (.tup [x, y]) := ⟨trivial, fun ds e => by
  cases e
  refine ⟨(by show 2 ≤ sizeLine; decide), fun z hz => ?_⟩
  simp only [List.mem_cons, List.not_mem_nil, or_false] at hz
  rcases hz with rfl | rfl
  · exact h1
  · exact h2⟩
abbrev NoM (d : D) : Prop := ¬ ∃ m : Mk, m.Ok ∧ d = m.d
theorem isS_true {d : D} (h : isS d = true) : ∃ z, d = .str z := by
  cases d with
  | str z => exact ⟨z, rfl⟩
  | _ => cases h
theorem is_plain_no {S : Sto} {d : D} (h : Kn3 S d) (n : NoM d) {Q : NQ} {E} {T : TgQ Q E} : runF sp_is_plain [d] S Q E T = Q (.bl false) S := by
  simp_arith! [sp_is_plain, m_is_plain]
  simp_arith [kn_tuple h.1]
  cases d with
  | tup ds =>
    have k := (h.2 ds rfl).2
    simp_arith [isTu, Bool.not_true]
    have l0 : ∀ j : Nat, j < 4 → decide ((4 : Int) ≤ (j : Int)) = false := fun j hj => decide_eq_false (by omega)
    match ds, k, n with
    | [], _, _ => rfl
    | [x], _, _ => rfl
    | [x, y], _, _ => rfl
    | [x, y, z], _, _ => rfl
    | [x, y, z, u], k, n =>
      have e1 : decide ((4 : Int) ≤ ((0 + 1 + 1 + 1 + 1 : Nat) : Int)) = true := by decide
      have e2 : decide (((0 + 1 + 1 + 1 + 1 : Nat) : Int) ≤ 5) = true := by decide
      have e3 : decide (((0 + 1 + 1 + 1 + 1 : Nat) : Int) = 4) = true := by decide
      have e5 : decide (((0 + 1 + 1 + 1 + 1 : Nat) : Int) = 5) = false := by decide
      simp_arith [e1, e2, Bool.not_true, atI_0, kn_str (k x (by simp)).1]
      cases hs : isS x with
      | false => rfl
      | true =>
        obtain ⟨w, rfl⟩ := isS_true hs
        simp_arith [Bool.not_true, cut_13, is_pair_kn (kn_pair (k y (by simp)).1 (k z (by simp)).1)]
        cases hp : pairB (.tup [y, z]) 0 1000000000000 with
        | false => rfl
        | true =>
          obtain ⟨s, c, e, s0, s1, c0, c1⟩ := pairB_true hp
          cases e
          simp_arith [Bool.not_true, atI_3, is_due_kn (k u (by simp))]
          cases hd : dueB u with
          | false => rfl
          | true =>
            obtain ⟨t, b, rfl, du⟩ := dueB_true hd
            simp_arith [Bool.not_true, atI_0]
            by_cases hw : w = "product"
            · subst hw
              simp_arith [decide_true, e3, atI_1, atI_2]
              by_cases h1 : 1 ≤ s
              · by_cases h2 : 1 ≤ c
                · exact absurd ⟨⟨.pr, s, c, t, b, 0, 0⟩, ⟨s0, s1, c0, c1, du, fun _ => ⟨h1, h2⟩, nofun, nofun⟩, rfl⟩ n
                · simp only [h1, h2, decide_true, decide_false]
              · simp only [h1, decide_false]
            · simp only [hw, decide_false]
              simp_arith [e5, Bool.not_false]
    | [x, y, z, u, v], k, n =>
      have e1 : decide ((4 : Int) ≤ ((0 + 1 + 1 + 1 + 1 + 1 : Nat) : Int)) = true := by decide
      have e2 : decide (((0 + 1 + 1 + 1 + 1 + 1 : Nat) : Int) ≤ 5) = true := by decide
      have e3 : decide (((0 + 1 + 1 + 1 + 1 + 1 : Nat) : Int) = 4) = false := by decide
      have e5 : decide (((0 + 1 + 1 + 1 + 1 + 1 : Nat) : Int) = 5) = true := by decide
      simp_arith [e1, e2, Bool.not_true, atI_0, kn_str (k x (by simp)).1]
      cases hs : isS x with
      | false => rfl
      | true =>
        obtain ⟨w, rfl⟩ := isS_true hs
        simp_arith [Bool.not_true, cut_13, is_pair_kn (kn_pair (k y (by simp)).1 (k z (by simp)).1)]
        cases hp : pairB (.tup [y, z]) 0 1000000000000 with
        | false => rfl
        | true =>
          obtain ⟨s, c, e, s0, s1, c0, c1⟩ := pairB_true hp
          cases e
          simp_arith [Bool.not_true, atI_3, is_due_kn (k u (by simp))]
          cases hd : dueB u with
          | false => rfl
          | true =>
            obtain ⟨t, b, rfl, du⟩ := dueB_true hd
            simp_arith [Bool.not_true, atI_0]
            by_cases hw : w = "product"
            · subst hw
              simp_arith [decide_true, e3]
            · by_cases hw2 : w = "sum"
              · subst hw2
                simp only [hw, decide_false]
                simp_arith [e5, Bool.not_true, atI_0, decide_true, atI_4, is_pair_kn (k v (by simp))]
                cases hv : pairB v 1 1000000 with
                | false => rfl
                | true =>
                  obtain ⟨p, q, rfl, p0, p1, q0, q1⟩ := pairB_true hv
                  exact absurd ⟨⟨.su, s, c, t, b, p, q⟩, ⟨s0, s1, c0, c1, du, nofun, nofun, fun _ => ⟨p0, p1, q0, q1⟩⟩, rfl⟩ n
              · by_cases hw3 : w = "stretch"
                · subst hw3
                  simp only [hw, decide_false]
                  simp_arith [e5, Bool.not_true, atI_0, hw2, decide_false, decide_true, atI_4, is_pair_kn (k v (by simp))]
                  cases hv : pairB v 0 1000000000000 with
                  | false => rfl
                  | true =>
                    obtain ⟨p, q, rfl, p0, p1, q0, q1⟩ := pairB_true hv
                    simp_arith [Bool.not_true, atI_0, atI_1, atI_2, atI_4]
                    by_cases h1 : 1 ≤ s + p
                    · by_cases h2 : 1 ≤ c + q
                      · exact absurd ⟨⟨.st, s, c, t, b, p, q⟩, ⟨s0, s1, c0, c1, du, nofun, fun _ => ⟨p0, p1, q0, q1, h1, h2⟩, nofun⟩, rfl⟩ n
                      · simp only [h1, h2, decide_true, decide_false]
                    · simp only [h1, decide_false]
                · simp only [hw, decide_false]
                  simp_arith [e5, Bool.not_true, atI_0, hw2, hw3, decide_false, Bool.not_false]
    | x :: y :: z :: u :: v :: o :: r, _, _ =>
      have e1 : decide ((4 : Int) ≤ (((x :: y :: z :: u :: v :: o :: r).length : Nat) : Int)) = true := decide_eq_true (by simp only [List.length_cons]; omega)
      have e2 : decide ((((x :: y :: z :: u :: v :: o :: r).length : Nat) : Int) ≤ 5) = false := decide_eq_false (by simp only [List.length_cons]; omega)
      simp only [e1, e2, Bool.not_false]
  | _ => rfl
theorem Kn3.up {S S' : Sto} {d : D} (u : Keeps S S') (h : Kn3 S d) : Kn3 S' d := by
  have key : Kn S' d := (Kn2.up (d := .tup [d]) u ⟨trivial, fun ds e => by cases e; exact ⟨(by show 1 ≤ sizeLine; decide), fun z hz => by simp only [List.mem_cons, List.not_mem_nil, or_false] at hz; rw [hz]; exact h.1⟩⟩).2 [d] rfl |>.2 d (by simp)
  exact ⟨key, fun ds e => ⟨(h.2 ds e).1, fun x hx => ((h.2 ds e).2 x hx).up u⟩⟩
theorem inR_true {d : D} {a b : Int} (h : inR d a b = true) : ∃ i, d = .int i ∧ a ≤ i ∧ i ≤ b := by
  unfold inR at h
  split at h
  · rw [Bool.and_eq_true, decide_eq_true_eq, decide_eq_true_eq] at h
    exact ⟨_, rfl, h.1, h.2⟩
  · cases h
theorem beq_dec {a b : Str} : (a == b) = decide (b = a) := by
  by_cases h : a = b
  · subst h; simp
  · have h' : ¬ b = a := fun z => h z.symm
    rw [beq_eq_false_iff_ne.mpr h, decide_eq_false h']
/-! ### what a market tells -/
theorem kD_st (ms : List Mkr) : (stD ms).map (fun kv => kD kv.1) = ms.map fun r => D.str r.nm := by
  unfold stD
  rw [List.map_map]
  rfl
theorem kD_po (hs : List Hnd) : (poD hs).map (fun kv => kD kv.1) = hs.map fun h => D.str h.nm := by
  unfold poD
  rw [List.map_map]
  rfl
/-- a name's place in a dict -/
theorem dget_at : ∀ {kvs : List (Key × D)} {k : Key} {v : D}, (kvs.map (·.1)).Nodup → (k, v) ∈ kvs → dget kvs k = some v
  | (k', v') :: r, k, v, nd, h => by
    unfold dget
    rw [List.find?_cons]
    by_cases e : k' = k
    · subst e
      rw [decide_eq_true rfl]
      rcases List.mem_cons.mp h with z | z
      · cases z; rfl
      · rw [List.map_cons, List.nodup_cons] at nd
        exact absurd (List.mem_map.mpr ⟨_, z, rfl⟩) nd.1
    · rw [decide_eq_false e]
      rcases List.mem_cons.mp h with z | z
      · cases z; exact absurd rfl e
      · rw [List.map_cons, List.nodup_cons] at nd
        exact dget_at nd.2 z
theorem stD_nd {ms : List Mkr} (h : (ms.map (·.nm)).Nodup) : ((stD ms).map (·.1)).Nodup := by
  have e : (stD ms).map (·.1) = (ms.map (·.nm)).map (Sum.inr : Str → Key) := by
    unfold stD
    rw [List.map_map, List.map_map]
    rfl
  rw [e]
  exact List.Pairwise.map Sum.inr (fun _ _ n z => n (Sum.inr.inj z)) h
theorem poD_nd {hs : List Hnd} (h : (hs.map (·.nm)).Nodup) : ((poD hs).map (·.1)).Nodup := by
  have e : (poD hs).map (·.1) = (hs.map (·.nm)).map (Sum.inr : Str → Key) := by
    unfold poD
    rw [List.map_map, List.map_map]
    rfl
  rw [e]
  exact List.Pairwise.map Sum.inr (fun _ _ n z => n (Sum.inr.inj z)) h
def haD (m : Mk) : D := .tup [.int m.s, .int m.c]
theorem put_back {S : Sto} {p : Addr} {o : Ob} (h : S p = some o) (o2 : Ob) : put (put S p o2) p o = S := by
  funext a
  by_cases e : a = p
  · subst e; rw [put_same, h]
  · rw [put_ne e, put_ne e]
/-- locked, laid anew at p2 and unlocked again -/
theorem keeps_lock {S S' : Sto} {p : Addr} {kvs : List (Key × D)} (h : S p = some (.dic kvs)) (u : Keeps (put S p (.lok kvs)) S') : Keeps S (put S' p (.dic kvs)) := lock_upd h u
/-- runC_keep, with the list told by a map -/
theorem lc_keepM {α : Type} (a b : α → D) {g : NG} {tt : NT} {te : NE} {kp : Keep} {p : Addr} {e : N.Env} {S0 : Sto} {Q : Sto → Prop} (hk : ∀ S, Upd [p] S0 S → kp S) : ∀ {rs : List α} {acc : List D} {S : Sto}, acc.length + rs.length ≤ sizeLine → Upd [p] S0 S → S p = some (.lst acc) →
    (∀ x ∈ rs, ∀ S (Y : D → Sto → Prop) (N : Sto → Prop), Upd [p] S0 S → (∀ S3, Keeps S S3 → Y (b x) S3) → g (a x) e S fun e2 S2 => tt e2 S2 fun c S3 => match c with | true => te e2 S3 Y | false => N S3) →
    (∀ S', Upd [p] S0 S' → S' p = some (.lst (acc ++ rs.map b)) → Q S') → lcL g tt te kp p e (rs.map a) S Q
  | [], acc, S, _, u, hp, _, q => q S u (by rw [List.map_nil, List.append_nil]; exact hp)
  | x :: xs, acc, S, hl, u, hp, h, q => by
    simp only [List.length_cons] at hl
    refine h x (by simp) S _ _ u fun S3 K3 => ?_
    have g3 := K3 _ _ (by simp) hp
    rw [g3]
    have u3 : Upd [p] S0 (N.put S3 p (.lst (acc ++ [b x]))) := (u.trans K3.up).trans (Upd.at (by simp))
    refine ⟨by omega, hk _ u3, lc_keepM a b hk (by simp only [List.length_append, List.length_cons, List.length_nil]; omega) u3 put_same (fun z hz => h z (by simp [hz])) fun S' u' hp' => q S' u' (by rw [hp', List.map_cons, List.append_assoc]; rfl)⟩
theorem runC_keepM {α : Type} (a b : α → D) {g : NG} {tt : NT} {te : NE} {kp : Keep} {p : Addr} {e : N.Env} {S0 : Sto} {Q : Sto → Prop} {rs : List α} {ds : List D} {T : TgC g tt te Q} (hd : ds = rs.map a) (hp : S0 p = Option.none) (hk : ∀ S, Keeps S0 S → kp S) (hl : rs.length ≤ sizeLine)
    (h : ∀ x ∈ rs, ∀ S (Y : D → Sto → Prop) (N : Sto → Prop), Keeps S0 S → (∀ S3, Keeps S S3 → Y (b x) S3) → g (a x) e S fun e2 S2 => tt e2 S2 fun c S3 => match c with | true => te e2 S3 Y | false => N S3)
    (q : ∀ S', Keeps S0 S' → S' p = some (.lst (rs.map b)) → Q S') : runC g tt te kp p e ds (N.put S0 p (.lst [])) Q T := by
  subst hd
  exact lc_keepM a b (fun S u => hk S (keeps_of u hp)) (by simpa using hl) (Upd.at (by simp)) put_same (fun x hx S Y N u k => h x hx S Y N (keeps_of u hp) k) fun S' u' g' => q S' (keeps_of u' hp) (by simpa using g')
theorem MarketAt.free {g ps pk : Addr} {ms : List Mkr} {hs : List Hnd} {S : Sto} (G : MarketAt g ps pk ms hs S) {r : Mkr} (hr : r ∈ ms) : r.p ≠ ps ∧ r.q ≠ ps ∧ r.p ≠ pk ∧ r.q ≠ pk ∧ g ≠ ps ∧ g ≠ pk ∧ r.p ≠ g ∧ r.q ≠ g := by
  have M := G.mks r hr
  refine ⟨fun z => ?_, fun z => ?_, fun z => ?_, fun z => ?_, fun z => ?_, fun z => ?_, fun z => ?_, fun z => ?_⟩
  · have := M.ins; rw [z, G.sta] at this; cases this
  · have := M.lst; rw [z, G.sta] at this; cases this
  · have := M.ins; rw [z, G.poc] at this; cases this
  · have := M.lst; rw [z, G.poc] at this; cases this
  · have := G.ins; rw [z, G.sta] at this; cases this
  · have := G.ins; rw [z, G.poc] at this; cases this
  · have e := M.ins
    rw [z, G.ins] at e
    have e2 := Option.some.inj e
    injection e2 with e3 e4
    exact absurd e3 (by unfold Mk.cn; cases r.m.k <;> decide)
  · have := M.lst; rw [z, G.ins] at this; cases this
theorem text_ok {g ps pk : Addr} {ms : List Mkr} {hs : List Hnd} {S : Sto} {Q : NQ} {E} {T : TgQ Q E} (G : MarketAt g ps pk ms hs S) (X : MTxt (ms.map Mkr.two) hs) (k : ∀ S', Keeps S S' → Q (.str (mtext (ms.map Mkr.two) hs)) S') : runF sp_Market_text [.ref g] S Q E T := by
  simp_arith! [sp_Market_text, m_Market_text]
  refine lock_s G.sta ?_
  have gi : put S ps (.lok (stD ms)) g = some (.ins "Market" [("stalls", .ref ps), ("pockets", .ref pk)]) := by
    rw [put_ne, G.ins]
    intro z
    have := G.ins
    rw [z, G.sta] at this
    cases this
  have gs : put S ps (.lok (stD ms)) ps = some (.lok (stD ms)) := put_same
  simp_arith [gi, flds1, gs]
  intro p hp
  have sl : (10000 : Nat) ≤ sizeLine := by decide
  have ml := X.m6
  rw [List.length_map] at ml
  refine runC_keepM (fun r : Mkr => .tup [.str r.nm, .ref r.p]) (fun r : Mkr => .str (rowM r.two)) (by unfold stD; rw [List.map_map]; rfl) hp (fun _ _ => trivial) (by omega) (fun r hr S1 Y N K hY => ?_) fun S1 K1 g1 => ?_
  · have fr := G.free hr
    have M : MkAt r.p r.q r.m S1 := (((G.mks r hr).up (Upd.at (A := [ps]) (by simp)) (by simpa using fr.1) (by simpa using fr.2.1)).up K (by simp) (by simp))
    obtain ⟨o, no⟩ := X.mo r.two (List.mem_map.mpr ⟨r, hr, rfl⟩)
    simp_arith [M.ins, mt_plain]
    rw [get_plain_ok M]
    simp_arith [mFs_no (m := r.m) (q := r.q) (f := "plain") (by decide)]
    refine maker_row_ok no o fun S2 K2 => ?_
    exact hY _ K2
  have K2 := keeps_lock G.sta K1
  have pp : p ≠ ps := fun z => by rw [z, put_same] at hp; cases hp
  have g2 : put S1 ps (.dic (stD ms)) p = some (.lst (ms.map fun r => .str (rowM r.two))) := by rw [put_ne pp, g1]
  have G2 := G.keep K2
  simp_arith []
  generalize put S1 ps (.dic (stD ms)) = S2 at *
  refine ⟨⟨_, _, rfl, g2⟩, lock_e G2.poc ?_⟩
  have gne : g ≠ pk := fun z => by
    have := G2.ins
    rw [z, G2.poc] at this
    cases this
  have gi2 : put S2 pk (.lok (poD hs)) g = some (.ins "Market" [("stalls", .ref ps), ("pockets", .ref pk)]) := by rw [put_ne gne, G2.ins]
  have gs2 : put S2 pk (.lok (poD hs)) pk = some (.lok (poD hs)) := put_same
  simp_arith [gi2, flds2, gs2]
  intro p2 hp2
  have hl := X.h6
  refine runC_keepM (fun h : Hnd => .tup [.str h.nm, .tup [.int h.a, .int h.b]]) (fun h : Hnd => .str (rowH h)) (by unfold poD; rw [List.map_map]; rfl) hp2 (fun _ _ => trivial) (by omega) (fun h hh S3 Y N K3 hY => ?_) fun S3 K3 g3 => ?_
  · obtain ⟨o, no⟩ := X.ho h hh
    simp_arith []
    refine hand_row_ok no o fun S4 K4 => ?_
    exact hY _ K4
  have K4 := keeps_lock G2.poc K3
  have ppk : p ≠ pk := fun z => by rw [z, G2.poc] at g2; cases g2
  have p2pk : p2 ≠ pk := fun z => by rw [z, put_same] at hp2; cases hp2
  have p2p : p2 ≠ p := fun z => by rw [z, put_ne ppk, g2] at hp2; cases hp2
  have g4 : put S3 pk (.dic (poD hs)) p2 = some (.lst (hs.map fun r => .str (rowH r))) := by rw [put_ne p2pk, g3]
  have g5 := K4 _ _ (by simp) g2
  generalize put S3 pk (.dic (poD hs)) = S4 at *
  simp_arith [g4, g5, put_same]
  have e1 : (ms.map fun r => D.str (rowM r.two)) ++ (hs.map fun r => D.str (rowH r)) = ((ms.map Mkr.two).map rowM ++ hs.map rowH).map D.str := by
    rw [List.map_append, List.map_map, List.map_map, List.map_map]; rfl
  rw [e1, strsM]
  have ls : (ms.map fun r => D.str (rowM r.two)).length + (hs.map fun r => D.str (rowH r)).length ≤ sizeLine := by
    rw [List.length_map, List.length_map]; omega
  have sm := sum_le fun w hw => (X.rows w hw).2
  have en : (Str.ofString "\n").length = 1 := by decide
  have ln : ((ms.map Mkr.two).map rowM ++ hs.map rowH).length ≤ 12 := by
    rw [List.length_append, List.length_map, List.length_map, List.length_map]; omega
  refine ⟨ls, ?_, k _ ?_⟩
  · show _ ≤ sizeLine
    rw [en]; omega
  · have np : S p = Option.none := by
      rw [← hp, put_ne pp]
    exact keeps_of (Upd.trans (Keeps.up (Upd.trans K2 K4)) (Upd.at (by simp))) np

def salts (ms : List Mkr) (hs : List Hnd) : List Int := ms.map (·.m.s) ++ hs.map (·.a)
def cloths (ms : List Mkr) (hs : List Hnd) : List Int := ms.map (·.m.c) ++ hs.map (·.b)
def pairsM (ms : List Mkr) (hs : List Hnd) : List D := (ms.map fun r => haD r.m) ++ hs.map fun h => .tup [.int h.a, .int h.b]
theorem intsM : ∀ l : List Int, intsOf (l.map D.int) = some l
  | [] => rfl
  | i :: r => by
    show (intsOf (r.map D.int)).map (i :: ·) = some (i :: r)
    rw [intsM r]; rfl
/-! ### numbers drawn of a state with its own lists -/
theorem mixedA {c k : Int} (h0 : 0 ≤ k) (h1 : k < 1000) {S : Sto} {Q : NQ} {E} {T : TgQ Q E} (h : ∀ v, 0 ≤ v → v < 2147483647 → Q (.int v) S) : runF sp__law_mixed [.int c, .int k] S Q E T := by
  simp_arith! [sp__law_mixed, m__law_mixed]
  have e1 : N.MulOk 2 k := .inl (by decide)
  have e2 : N.MulOk (2 * k) k := .inl (by omega)
  have e3 : 0 ≤ k * k ∧ k * k < 1000000 := ⟨Int.mul_nonneg h0 h0, by have := Int.mul_le_mul (by omega : k ≤ 999) (by omega : k ≤ 999) h0 (by omega : (0 : Int) ≤ 999); omega⟩
  have e4 : 2 * k * k = 2 * (k * k) := Int.mul_assoc _ _ _
  have e5 : N.MulOk c (48271 + 2 * k * k) := .inr (.inl (by omega))
  have e6 : N.MulOk 69621 k := .inl (by decide)
  have e7 : ∀ z, N.MulOk z 69621 := fun z => .inr (.inl (by decide))
  have e8 : (0 : Int) < 2147483647 := by decide
  have e9 : (0 : Int) < 2147483629 := by decide
  simp_arith [e1, e2, e5, e6, e7, e8, e9, true_and]
  have := mod_lt (i := (c * (48271 + 2 * k * k) + 69621 * k + 11) % 2147483647 * 69621) e9
  exact h _ this.1 (by omega)
theorem eqT_lst_nil {S : Sto} {ns : List Int} {c p : Addr} (hc : S c = some (.lst (ns.map D.int))) (h : S p = some (.lst [])) : eqT S (.ref c) (.ref p) = some (decide (ns = [])) := by
  unfold eqT
  simp only [pyT, hc, h, pyDs_ints, pyDs, Option.map_some]
  cases ns with
  | nil => rfl
  | cons n r => rw [shaped_ints]; rfl
@[irreducible] def s3D (c l : Addr) (n : Int) : List (Key × D) := [(.inr "cells", .ref c), (.inr "left", .ref l), (.inr "at", .int n)]
theorem s3_cells {c l : Addr} {n : Int} : dget (s3D c l n) (.inr "cells") = some (.ref c) := by unfold s3D; rfl
theorem s3_left {c l : Addr} {n : Int} : dget (s3D c l n) (.inr "left") = some (.ref l) := by unfold s3D; rfl
theorem s3_at {c l : Addr} {n : Int} : dget (s3D c l n) (.inr "at") = some (.int n) := by unfold s3D; rfl
theorem s3_put {c l : Addr} {n m : Int} : dput (s3D c l n) (.inr "at") (.int m) = s3D c l m := by unfold s3D; rfl
theorem s3_len {c l : Addr} {n : Int} : ((s3D c l n).length < sizeLine) = True := by unfold s3D; simp; decide
theorem s3_mk {c l : Addr} {n : Int} : mergeD [] [(.inr "cells", .ref c), (.inr "left", .ref l), (.inr "at", .int n)] = s3D c l n := by unfold s3D; rfl
structure St3 (a c l : Addr) (ns : List Int) (S : Sto) : Prop where
  al : a ≠ l
  ac : a ≠ c
  cl : c ≠ l
  ex : ∃ (n : Int) (ls : List Int), S a = some (.dic (s3D c l n)) ∧ S c = some (.lst (ns.map D.int)) ∧ S l = some (.lst (ls.map D.int)) ∧ ls.length = ns.length
theorem St3.up {a c l : Addr} {ns : List Int} {S S' : Sto} {A : List Addr} (h : St3 a c l ns S) (u : Upd A S S') (ha : a ∉ A) (hc : c ∉ A) (hl : l ∉ A) : St3 a c l ns S' := by
  obtain ⟨al, ac, cl, n, ls, h1, h2, h3, h4⟩ := h
  exact ⟨al, ac, cl, n, ls, u _ _ ha h1, u _ _ hc h2, u _ _ hl h3, h4⟩
/-- drawn of a state: only the state has changed -/
structure D3 (a c l : Addr) (ns : List Int) (S S' : Sto) : Prop where
  s : St3 a c l ns S'
  u : Upd [a, l] S S'
theorem D3.trans {a c l : Addr} {ns : List Int} {S S1 S2 : Sto} (h : D3 a c l ns S S1) (k : D3 a c l ns S1 S2) : D3 a c l ns S S2 := ⟨k.s, h.u.trans k.u⟩
theorem D3.keep {a c l : Addr} {ns : List Int} {S S1 S2 : Sto} (h : D3 a c l ns S S1) (k : Keeps S1 S2) : D3 a c l ns S S2 := ⟨h.s.up k (by simp) (by simp) (by simp), h.u.trans k.up⟩
theorem D3.free {a c l : Addr} {ns : List Int} {S S1 : Sto} (h : D3 a c l ns S S1) {p : Addr} (hp : S1 p = Option.none) : p ∉ [a, l] := by
  obtain ⟨_, _, _, n, ls, h1, h2, h3, h4⟩ := h.s
  simp only [List.mem_cons, List.not_mem_nil, or_false, not_or]
  exact ⟨(fun z => by rw [z, h1] at hp; cases hp), (fun z => by rw [z, h3] at hp; cases hp)⟩
theorem next3 {a c l : Addr} {ns : List Int} {S0 S : Sto} {Q : NQ} {E} {T : TgQ Q E} (h : D3 a c l ns S0 S) (k : ∀ v S', 0 ≤ v → v < 2147483647 → D3 a c l ns S0 S' → Upd [a, l] S S' → Q (.int v) S') : runF sp__law_next [.ref a] S Q E T := by
  obtain ⟨⟨al, ac, cl, n, ls, h1, h2, h4, h3⟩, u0⟩ := h
  simp_arith! [sp__law_next, m__law_next]
  have e0 : N.MulOk 7919 (n + 1) := .inl (by decide)
  have e1 : (0 : Int) < 1000 := by decide
  have m1 := mod_lt (i := n + 1) e1
  have e2 : (0 : Int) < 2147483647 := by decide
  have e3 : PowOk 10 18 := ⟨by decide, by decide, by decide⟩
  have hb : ∀ o, put S a o l = S l := fun o => put_ne (Ne.symm al)
  have hd : ∀ o, put S a o c = S c := fun o => put_ne (Ne.symm ac)
  simp_arith [h1, put_same, s3_cells, s3_at, s3_left, s3_put, s3_len, true_and, Nat.zero_le]
  intro p hp
  have pa : p ≠ a := fun z => by rw [z, put_same] at hp; cases hp
  have pb : p ≠ l := fun z => by rw [z, hb, h4] at hp; cases hp
  have pc : p ≠ c := fun z => by rw [z, hd, h2] at hp; cases hp
  have ua : Upd [a, l] S (put S a (.dic (s3D c l (n + 1)))) := Upd.at (by simp)
  have u1 := ua.trans (Upd.new (A := [a, l]) (o := .lst []) hp)
  have la : ∀ o, put (put S a o) p (.lst []) a = some o := fun o => by rw [put_ne (Ne.symm pa), put_same]
  have lb : ∀ o, put (put S a o) p (.lst []) l = some (.lst (ls.map D.int)) := fun o => by rw [put_ne (Ne.symm pb), hb, h4]
  have lc : ∀ o, put (put S a o) p (.lst []) c = some (.lst (ns.map D.int)) := fun o => by rw [put_ne (Ne.symm pc), hd, h2]
  have L1 : D3 a c l ns S0 (put (put S a (.dic (s3D c l (n + 1)))) p (.lst [])) := ⟨⟨al, ac, cl, n + 1, ls, la _, lc _, lb _, h3⟩, u0.trans u1⟩
  rw [eqT_lst_nil (lc _) put_same]
  by_cases hn : ns = []
  · simp_arith [hn, decide_true, e0, e1, true_and]
    subst hn
    exact mixedA m1.1 m1.2 fun v v0 v1 => k v _ v0 v1 L1 u1
  have hl : (0 : Int) < ns.length := by
    cases ns with
    | nil => exact absurd rfl hn
    | cons _ _ => simp only [List.length_cons]; omega
  have mi := mod_lt (i := n + 1) hl
  obtain ⟨v1, f2, -⟩ := idx_some mi.1 mi.2
  obtain ⟨v2, f3, f4⟩ := idx_some (ns := ls) mi.1 (by omega)
  simp_arith [hn, decide_false, la, lb, lc, s3_cells, s3_at, s3_left, List.length_map, hl, true_and, f2, f3, e0, e1, e2, e3]
  have last : ∀ S', D3 a c l ns S0 S' → Upd [a, l] S S' → runF sp__law_mixed [D.int (v1 + 7919 * (n + 1)), D.int ((n + 1) % 1000)] S' Q E T := fun S' l u => mixedA m1.1 m1.2 fun v v0 v1 => k v _ v0 v1 l u
  cases decide ((10 : Int) ^ (18 : Int).toNat ≤ v1)
  · simp_arith [la, lb, lc, s3_cells, s3_at, s3_left, List.length_map, hl, true_and, f2, f3, e0, e1]
    exact last _ L1 u1
  · simp_arith [la, lb, lc, s3_cells, s3_at, s3_left, List.length_map, hl, true_and, f2, f3, e0, e1]
    cases decide ((0 : Int) < v2)
    · simp_arith [la, lb, lc, s3_cells, s3_at, s3_left, List.length_map, hl, true_and, f2, f3, e0, e1]
      exact last _ L1 u1
    · have d1 : DivOk v2 2147483647 := div_ok (by decide) (by decide)
      simp_arith [la, lb, lc, s3_cells, s3_at, s3_left, List.length_map, hl, true_and, f2, f3, e0, e1, e2, d1]
      have hx : ixN ls.length ((n + 1) % ns.length) = some ((n + 1) % ns.length).toNat := ixN_in mi.1 (by omega)
      obtain ⟨ls', g1, g2⟩ := f4 (v2 / 2147483647)
      simp only [hx, g1]
      have mv := mod_lt (i := v2) e2
      have u2 := u1.trans (Upd.at (A := [a, l]) (p := l) (o := .lst (ls'.map D.int)) (by simp))
      refine k _ _ mv.1 mv.2 ⟨⟨al, ac, cl, n + 1, ls', ?_, ?_, put_same, by omega⟩, u0.trans u2⟩ u2
      · rw [put_ne al]; exact la _
      · rw [put_ne cl]; exact lc _
def Gr (i : Int) : Prop := 0 ≤ i ∧ i ≤ 1000000000000
theorem amount3 {a c l : Addr} {ns : List Int} {S0 S : Sto} {Q : NQ} {E} {T : TgQ Q E} (h : D3 a c l ns S0 S) (k : ∀ v S', Gr v → D3 a c l ns S0 S' → Upd [a, l] S S' → Q (.int v) S') : runF sp__law_amount [.ref a] S Q E T := by
  simp_arith! [sp__law_amount, m__law_amount]
  try simp_arith []
  refine next3 h fun v S1 v0 v1 d1 u1 => ?_
  have e1 : N.MulOk v 2147483629 := mul_ok_r (by decide) (by decide)
  have e0 : (0 : Int) < 4 := by decide
  have e4 : DivOk v 4 := div_ok (by decide) (by decide)
  simp_arith [e1, e0, e4]
  refine next3 d1 fun w S2 w0 w1 d2 u2 => ?_
  have e2 : (0 : Int) < 30 := by decide
  have e3 : (0 : Int) < 1000000 := by decide
  have e5 : PowOk 10 12 := ⟨by decide, by decide, by decide⟩
  have e6 : (10 : Int) ^ (12 : Int).toNat = 1000000000000 := by decide
  have e7 : (0 : Int) < 9 := by decide
  have e8 : (0 : Int) < 1000000000000 + 1 := by decide
  simp_arith [e2, e3, e5, e6, e7, e8]
  intro p hp
  have m := mod_lt (i := v) e0
  simp_arith [put_same, e0]
  generalize (v * 2147483629 + w) = z
  obtain ⟨x, f, -⟩ := idx_some (ns := [v / 4 % 30, 1 + v / 4 % 1000000, 1000000000000 - v / 4 % 9, z % (1000000000000 + 1)]) m.1 (by simpa using m.2)
  have hx : Gr x := by
    have f' := f
    rw [atI_nat' m.1] at f'
    have c : v % 4 = 0 ∨ v % 4 = 1 ∨ v % 4 = 2 ∨ v % 4 = 3 := by omega
    unfold Gr
    rcases c with c | c | c | c <;> rw [c] at f' <;> simp only [List.map_cons, List.map_nil, Int.toNat_zero, Int.toNat_one, List.getElem?_cons_zero, List.getElem?_cons_succ, Option.some.injEq, D.int.injEq, show (2 : Int).toNat = 2 from rfl, show (3 : Int).toNat = 3 from rfl] at f' <;> omega
  simp only [List.map_cons, List.map_nil] at f
  simp_arith [f]
  exact k _ _ hx (d2.keep (Upd.new hp)) ((u1.trans u2).trans (Upd.new hp))
theorem due3 {a c l : Addr} {ns : List Int} {S0 S : Sto} {Q : NQ} {E} {T : TgQ Q E} (h : D3 a c l ns S0 S) (k : ∀ t b' S', Due t b' → D3 a c l ns S0 S' → Upd [a, l] S S' → Q (.tup [.int t, .int b']) S') : runF sp__law_due [.ref a] S Q E T := by
  simp_arith! [sp__law_due, m__law_due]
  try simp_arith []
  refine next3 h fun v S1 v0 v1 d1 u1 => ?_
  have e1 : (0 : Int) < 5 := by decide
  have e2 : DivOk v 5 := div_ok (by decide) (by decide)
  have e3 : (0 : Int) < 10000 := by decide
  have e4 : DivOk v 50000 := div_ok (by decide) (by decide)
  have e5 : DivOk (1 + v / 5 % 10000) 10 := div_ok (by decide) (by decide)
  have e6 : (0 : Int) < 10 := by decide
  have e7 : (0 : Int) < (1 + v / 5 % 10000) / 10 + 1 := by omega
  have e8 : (0 : Int) < 50000 := by decide
  simp_arith [e1, e2, e3, e4, e5, e6, e7, e8]
  intro p hp
  simp_arith [put_same, e1]
  have b := mod_lt (i := v / 5) e3
  have t := mod_lt (i := v / 50000) e7
  have c : v % 5 = 0 ∨ v % 5 = 1 ∨ v % 5 = 2 ∨ v % 5 = 3 ∨ v % 5 = 4 := by omega
  have kk : ∀ t b', Due t b' → Q (.tup [.int t, .int b']) (put S1 p (.lst [.tup [.int 0, .int 1], .tup [.int 3, .int 1000], .tup [.int 1, .int 10], .tup [.int 0, .int (1 + v / 5 % 10000)], .tup [.int (v / 50000 % ((1 + v / 5 % 10000) / 10 + 1)), .int (1 + v / 5 % 10000)]])) := fun t b' du => k t b' _ du (d1.keep (Upd.new hp)) (u1.trans (Upd.new hp))
  generalize v / 50000 % ((1 + v / 5 % 10000) / 10 + 1) = x at *
  generalize v / 5 % 10000 = y at *
  rcases c with c | c | c | c | c <;> rw [c]
  · exact kk _ _ ⟨by decide, by decide, by decide, by decide⟩
  · exact kk _ _ ⟨by decide, by decide, by decide, by decide⟩
  · exact kk _ _ ⟨by decide, by decide, by decide, by decide⟩
  · exact kk _ _ ⟨by omega, by omega, by omega, by omega⟩
  · exact kk _ _ ⟨by omega, by omega, by omega, by omega⟩

theorem ok_pr3 {s c t b : Int} (s0 : Gr s) (c0 : Gr c) (du : Due t b) : (Mk.mk .pr (if s > 1 then s else 1) (if c > 1 then c else 1) t b 0 0).Ok := by
  unfold Gr at *
  refine ⟨?_, ?_, ?_, ?_, du, fun _ => ⟨?_, ?_⟩, nofun, nofun⟩ <;> dsimp only <;> split <;> omega
theorem ok_st3 {s c t b x y i j : Int} (s0 : Gr s) (c0 : Gr c) (x0 : Gr x) (y0 : Gr y) (i0 : i = if s = 0 then 1 else 0) (j0 : j = if c = 0 then 1 else 0) (du : Due t b) : (Mk.mk .st s c t b (if i > x then i else x) (if j > y then j else y)).Ok := by
  unfold Gr at *
  refine ⟨s0.1, s0.2, c0.1, c0.2, du, nofun, fun _ => ⟨?_, ?_, ?_, ?_, ?_, ?_⟩, nofun⟩ <;> dsimp only <;> (repeat' split) <;> omega
theorem ok_su3 {s c t b x y : Int} (s0 : Gr s) (c0 : Gr c) (x0 : 1 ≤ x) (x1 : x ≤ 1000000) (y0 : 1 ≤ y) (y1 : y ≤ 1000000) (du : Due t b) : (Mk.mk .su s c t b x y).Ok := by
  unfold Gr at *
  refine ⟨s0.1, s0.2, c0.1, c0.2, du, nofun, nofun, fun _ => ⟨?_, ?_, ?_, ?_⟩⟩ <;> dsimp only <;> omega
theorem plain3 {a c l : Addr} {ns : List Int} {S0 S : Sto} {Q : NQ} {E} {T : TgQ Q E} (h : D3 a c l ns S0 S) (k : ∀ (m : Mk) S', m.Ok → D3 a c l ns S0 S' → Upd [a, l] S S' → Q m.d S') : runF sp__law_plain [.ref a] S Q E T := by
  simp_arith! [sp__law_plain, m__law_plain]
  have e3 : (0 : Int) < 3 := by decide
  have e9 : (0 : Int) < 9 := by decide
  have e6 : (0 : Int) < 1000000 := by decide
  try simp_arith []
  refine next3 h fun v S1 v0 v1 d1 u1 => ?_
  have mv := mod_lt (i := v) e3
  have e4 : DivOk v 3 := div_ok (by decide) (by decide)
  simp_arith [e3]
  intro p hp
  have d1' := d1.keep (Upd.new (o := .lst [.str "product", .str "stretch", .str "sum"]) hp)
  have u1' := u1.trans (Upd.new (A := [a, l]) (o := .lst [.str "product", .str "stretch", .str "sum"]) hp)
  have g1 : put S1 p (.lst [.str "product", .str "stretch", .str "sum"]) p = some (.lst [.str "product", .str "stretch", .str "sum"]) := put_same
  generalize put S1 p (.lst [.str "product", .str "stretch", .str "sum"]) = S2 at *
  rw [g1]
  have c3 : v % 3 = 0 ∨ v % 3 = 1 ∨ v % 3 = 2 := by omega
  have i0 : atI ([.str "product", .str "stretch", .str "sum"] : List D) 0 = some (.str "product") := rfl
  have i1 : atI ([.str "product", .str "stretch", .str "sum"] : List D) 1 = some (.str "stretch") := rfl
  have i2 : atI ([.str "product", .str "stretch", .str "sum"] : List D) 2 = some (.str "sum") := rfl
  have n1 : ("stretch" = "product") = False := by decide
  have n2 : ("sum" = "product") = False := by decide
  have n3 : ("sum" = "stretch") = False := by decide
  rcases c3 with w | w | w <;> rw [w]
  · simp_arith [i0]
    refine amount3 d1' fun s S3 s0 d3 u3 => ?_
    try simp_arith []
    refine amount3 d3 fun c' S4 c0 d4 u4 => ?_
    try simp_arith []
    refine due3 d4 fun t b' S5 du d5 u5 => ?_
    simp_arith [decide_true]
    exact k _ _ (ok_pr3 s0 c0 du) d5 (((u1'.trans u3).trans u4).trans u5)
  · simp_arith [i1]
    refine amount3 d1' fun s S3 s0 d3 u3 => ?_
    try simp_arith []
    refine amount3 d3 fun c' S4 c0 d4 u4 => ?_
    try simp_arith []
    refine due3 d4 fun t b' S5 du d5 u5 => ?_
    simp_arith [ofString_inj, n1, decide_true, decide_false]
    refine amount3 d5 fun x S6 x0 d6 u6 => ?_
    try simp_arith []
    refine amount3 d6 fun y S7 y0 d7 u7 => ?_
    have kk := fun (i j : Int) (hi : i = if s = 0 then 1 else 0) (hj : j = if c' = 0 then 1 else 0) => k _ _ (ok_st3 s0 c0 x0 y0 hi hj du) d7 (((((u1'.trans u3).trans u4).trans u5).trans u6).trans u7)
    simp_arith []
    exact kk (if decide (s = 0) = true then 1 else 0) (if decide (c' = 0) = true then 1 else 0) (by simp) (by simp)
  · simp_arith [i2]
    refine amount3 d1' fun s S3 s0 d3 u3 => ?_
    try simp_arith []
    refine amount3 d3 fun c' S4 c0 d4 u4 => ?_
    try simp_arith []
    refine due3 d4 fun t b' S5 du d5 u5 => ?_
    simp_arith [ofString_inj, n2, n3, decide_true, decide_false]
    refine amount3 d5 fun x S6 x0 d6 u6 => ?_
    try simp_arith []
    refine amount3 d6 fun y S7 y0 d7 u7 => ?_
    simp_arith [ofString_inj, n2, n3, decide_true, decide_false, e9, e6]
    intro q hq
    simp_arith [put_same, e3, e4]
    have kk := fun (x y : Int) (x0 : 1 ≤ x) (x1 : x ≤ 1000000) (y0 : 1 ≤ y) (y1 : y ≤ 1000000) (o : Ob) => k _ _ (ok_su3 s0 c0 x0 x1 y0 y1 du) (d7.keep (Upd.new (o := o) hq)) ((((((u1'.trans u3).trans u4).trans u5).trans u6).trans u7).trans (Upd.new hq))
    have b1 := mod_lt (i := x) e9
    have b2 := mod_lt (i := y) e9
    have b3 := mod_lt (i := x) e6
    have b4 := mod_lt (i := y) e6
    have c3 : v / 3 % 3 = 0 ∨ v / 3 % 3 = 1 ∨ v / 3 % 3 = 2 := by omega
    rcases c3 with w | w | w <;> rw [w]
    · exact kk 1 1 (by decide) (by decide) (by decide) (by decide) _
    · exact kk _ _ (by omega) (by omega) (by omega) (by omega) _
    · exact kk _ _ (by omega) (by omega) (by omega) (by omega) _
theorem state3 {f : Addr} {ns : List Int} {S : Sto} {Q : NQ} {E} {T : TgQ Q E} (hf : S f = some (.lst (ns.map D.int))) (k : ∀ a c l S', S a = Option.none → S c = Option.none → S l = Option.none → St3 a c l ns S' → Keeps S S' → Q (.ref a) S') : runF sp__law_state [.ref f] S Q E T := by
  simp_arith! [sp__law_state, m__law_state]
  simp_arith []
  intro p hp
  have K1 : Keeps S (put S p (.dic [])) := Upd.new hp
  have g1 : put S p (.dic []) p = some (.dic []) := put_same
  have f1 := K1 _ _ (by simp) hf
  generalize put S p (.dic []) = S1 at *
  rw [f1]
  dsimp only
  intro c hc
  have K2 : Keeps S1 (put S1 c (.lst (ns.map D.int))) := Upd.new hc
  have g2 := K2 _ _ (by simp) g1
  have c2 : put S1 c (.lst (ns.map D.int)) c = some (.lst (ns.map D.int)) := put_same
  have f2 := K2 _ _ (by simp) f1
  generalize put S1 c (.lst (ns.map D.int)) = S2 at *
  rw [f2]
  dsimp only
  intro l hl
  have K3 : Keeps S2 (put S2 l (.lst (ns.map D.int))) := Upd.new hl
  have g3 := K3 _ _ (by simp) g2
  have c3 := K3 _ _ (by simp) c2
  have l3 : put S2 l (.lst (ns.map D.int)) l = some (.lst (ns.map D.int)) := put_same
  generalize put S2 l (.lst (ns.map D.int)) = S3 at *
  refine ⟨g3, by decide, ?_⟩
  rw [s3_mk]
  have pl : p ≠ l := fun z => by rw [z, l3] at g3; cases g3
  have pc : p ≠ c := fun z => by rw [z, c3] at g3; cases g3
  have cl : c ≠ l := fun z => by rw [z, hl] at c2; cases c2
  have c0 : S c = Option.none := K1.fresh' hc (by simp)
  have l0 : S l = Option.none := (Upd.trans K1 K2).fresh' hl (by simp)
  exact k p c l _ hp c0 l0 ⟨pl, pc, cl, 0, ns, put_same, by rw [put_ne (Ne.symm pc)]; exact c3, by rw [put_ne (Ne.symm pl)]; exact l3, rfl⟩ (keeps_of (Upd.trans (Keeps.up (Upd.trans (Upd.trans K1 K2) K3)) (Upd.at (by simp))) hp)
theorem state3r {ns : List Int} {S : Sto} {Q : NQ} {E} {T : TgQ Q E} (k : ∀ a c l S', S a = Option.none → S c = Option.none → S l = Option.none → St3 a c l ns S' → Keeps S S' → Q (.ref a) S') : runF sp__law_state [.rol (ns.map D.int)] S Q E T := by
  simp_arith! [sp__law_state, m__law_state]
  simp_arith []
  intro p hp
  have K1 : Keeps S (put S p (.dic [])) := Upd.new hp
  have g1 : put S p (.dic []) p = some (.dic []) := put_same
  generalize put S p (.dic []) = S1 at *
  try dsimp only
  intro c hc
  have K2 : Keeps S1 (put S1 c (.lst (ns.map D.int))) := Upd.new hc
  have g2 := K2 _ _ (by simp) g1
  have c2 : put S1 c (.lst (ns.map D.int)) c = some (.lst (ns.map D.int)) := put_same
  generalize put S1 c (.lst (ns.map D.int)) = S2 at *
  try dsimp only
  intro l hl
  have K3 : Keeps S2 (put S2 l (.lst (ns.map D.int))) := Upd.new hl
  have g3 := K3 _ _ (by simp) g2
  have c3 := K3 _ _ (by simp) c2
  have l3 : put S2 l (.lst (ns.map D.int)) l = some (.lst (ns.map D.int)) := put_same
  generalize put S2 l (.lst (ns.map D.int)) = S3 at *
  refine ⟨g3, by decide, ?_⟩
  rw [s3_mk]
  have pl : p ≠ l := fun z => by rw [z, l3] at g3; cases g3
  have pc : p ≠ c := fun z => by rw [z, c3] at g3; cases g3
  have cl : c ≠ l := fun z => by rw [z, hl] at c2; cases c2
  have c0 : S c = Option.none := K1.fresh' hc (by simp)
  have l0 : S l = Option.none := (Upd.trans K1 K2).fresh' hl (by simp)
  exact k p c l _ hp c0 l0 ⟨pl, pc, cl, 0, ns, put_same, by rw [put_ne (Ne.symm pc)]; exact c3, by rw [put_ne (Ne.symm pl)]; exact l3, rfl⟩ (keeps_of (Upd.trans (Keeps.up (Upd.trans (Upd.trans K1 K2) K3)) (Upd.at (by simp))) hp)

theorem rgD_cons {lo : Int} {n : Nat} : rangeD lo (n + 1) = .int lo :: rangeD (lo + 1) n := by
  unfold rangeD
  rw [List.range_succ_eq_map, List.map_cons, List.map_map]
  congr 1
  · simp
  · apply List.map_congr_left
    intro i _
    show D.int (lo + ((i + 1 : Nat) : Int)) = D.int (lo + 1 + (i : Int))
    congr 1
    omega
theorem rgD_len {lo : Int} {n : Nat} : (rangeD lo n).length = n := by unfold rangeD; simp
theorem tl_cut_hi {z : Str} {i : Int} (h : 0 ≤ i) : TL.tl (cutS z Option.none (some i)) = (TL.tl z).take i.toNat := by
  unfold cutS
  have e := HT.sIx_nat z.length z.length i.toNat
  rw [show ((i.toNat : Nat) : Int) = i by omega] at e
  rw [e, HT.sIx_none, List.drop_zero, TL.tl_mk]
  show (TL.tl z).take _ = _
  rw [TL.len_tl, Nat.sub_zero]
  apply List.ext_getElem?
  intro j
  rw [List.getElem?_take, List.getElem?_take]
  by_cases hj : j < (TL.tl z).length
  · by_cases hi : j < i.toNat
    · rw [if_pos hi, if_pos (by omega)]
    · rw [if_neg hi, if_neg (by omega)]
  · rw [List.getElem?_eq_none (by omega)]
    split <;> split <;> rfl
theorem tl_cut_lo {z : Str} {i : Int} (h : 0 ≤ i) : TL.tl (cutS z (some i) Option.none) = (TL.tl z).drop i.toNat := by
  unfold cutS
  have e := HT.sIx_nat z.length 0 i.toNat
  rw [show ((i.toNat : Nat) : Int) = i by omega] at e
  rw [e, HT.sIx_none, TL.tl_mk]
  show ((TL.tl z).drop _).take _ = _
  rw [TL.len_tl]
  by_cases hi : i.toNat ≤ (TL.tl z).length
  · rw [Nat.min_eq_left hi]
    apply List.take_of_length_le
    rw [List.length_drop]
    omega
  · rw [Nat.min_eq_right (by omega), Nat.sub_self, List.take_zero, List.drop_eq_nil_of_le (by omega)]
def LetOk (c : Nat) : Prop := c ∈ TL.tl (Str.ofString "abcdefghijklmnopqrstuvwxyz")
/-- the k-th of the names -/
def Nm (pre : List Nat) (q st k : Int) (z : Str) : Prop := ∃ w : List Nat, TL.tl z = pre ++ (97 + ((q + st * k) % 26).toNat) :: w ∧ pre.length + w.length ≤ 7 ∧ (∀ c ∈ w, LetOk c) ∧ (pre = [] → w <+: [113, 122, 106, 118, 113, 122, 106])
theorem let_at {j : Int} (h0 : 0 ≤ j) (h1 : j < 26) : atI (Str.ofString "abcdefghijklmnopqrstuvwxyz").cps.toList j = some (97 + j.toNat) ∧ LetOk (97 + j.toNat) := by
  have e : atI (Str.ofString "abcdefghijklmnopqrstuvwxyz").cps.toList j = some (97 + j.toNat) := by
    rw [atI_nat' h0]
    show (TL.tl (Str.ofString "abcdefghijklmnopqrstuvwxyz"))[j.toNat]? = _
    rw [letters, List.getElem?_map, List.getElem?_range (by omega)]
    show some (j.toNat + 97) = _
    rw [Nat.add_comm]
  refine ⟨e, ?_⟩
  unfold LetOk
  rw [letters]
  exact List.mem_map.mpr ⟨j.toNat, by simp; omega, by omega⟩
theorem Nm.ok {pre : List Nat} {q st k : Int} {z : Str} (hp : ∀ c ∈ pre, LetOk c) (h : Nm pre q st k z) : NameOk z := by
  obtain ⟨w, e, l, hw, _⟩ := h
  have m := mod_lt (i := q + st * k) (j := 26) (by decide)
  refine ⟨?_, ?_, ?_⟩
  · rw [TL.len_tl, e, List.length_append, List.length_cons]; omega
  · rw [TL.len_tl, e, List.length_append, List.length_cons]; omega
  · unfold allIn
    rw [e, List.all_eq_true]
    intro c hc
    apply decide_eq_true
    rcases List.mem_append.mp hc with hc | hc
    · exact hp c hc
    · rcases List.mem_cons.mp hc with rfl | hc
      · exact (let_at m.1 m.2).2
      · exact hw c hc
theorem tl_zq : TL.tl (Str.ofString "zqzq") = [122, 113, 122, 113] := by rw [TL.tl_ofString]; decide
theorem Nm.zq {pre : List Nat} {q st k : Int} {z : Str} (hp : pre = [] ∨ pre[0]? = some 113) (h : Nm pre q st k z) : z ≠ "zqzq" := by
  obtain ⟨w, e, l, _, hw⟩ := h
  intro zz
  rw [zz, tl_zq] at e
  rcases hp with rfl | hp
  · have pw := hw rfl
    rw [List.nil_append] at e
    have e2 := (List.cons.inj e).2
    rw [← e2] at pw
    revert pw
    decide
  · have := congrArg (fun l => l[0]?) e
    simp only [List.getElem?_cons_zero] at this
    cases pre with
    | nil => simp at hp
    | cons x r =>
      simp only [List.cons_append, List.getElem?_cons_zero] at this hp
      rw [hp] at this
      cases this
theorem Nm.ne {pre : List Nat} {q st i j : Int} {x y : Str} (hi : Nm pre q st i x) (hj : Nm pre q st j y) (n : (q + st * i) % 26 ≠ (q + st * j) % 26) : x ≠ y := by
  obtain ⟨w, e, _, _⟩ := hi
  obtain ⟨u, f, _, _⟩ := hj
  intro z
  rw [z, f] at e
  have e2 := List.append_cancel_left e
  have e3 := (List.cons.inj e2).1
  have m1 := mod_lt (i := q + st * i) (j := 26) (by decide)
  have m2 := mod_lt (i := q + st * j) (j := 26) (by decide)
  omega
theorem nm_nodup {pre : List Nat} {q st : Int} {zs : List Str} (hs : st = 5 ∨ st = 21 ∨ st = 11) (hl : zs.length ≤ 12) (h : ∀ (i : Nat) z, zs[i]? = some z → Nm pre q st i z) : zs.Nodup := by
  unfold List.Nodup
  rw [List.pairwise_iff_getElem]
  intro i j hi hj ij
  refine (h i _ (List.getElem?_eq_getElem hi)).ne (h j _ (List.getElem?_eq_getElem hj)) ?_
  rcases hs with rfl | rfl | rfl <;> omega
theorem brd : TL.tl (Str.ofString "qzjvqzj") = [113, 122, 106, 118, 113, 122, 106] := by rw [TL.tl_ofString]; decide
theorem brd_ok : ∀ c ∈ TL.tl (Str.ofString "qzjvqzj"), LetOk c := by
  unfold LetOk
  rw [brd, letters]
  decide
theorem d3_own {a c l p : Addr} {ns : List Int} {S0 S S1 S2 : Sto} (h : D3 a c l ns S0 S1) (u : Upd [a, l] S S1) (hp : S1 p = Option.none) (k : Upd [p] S1 S2) : D3 a c l ns S0 S2 ∧ Upd [a, l] S S2 := by
  have kk := keeps_of k hp
  exact ⟨h.keep kk, u.trans kk.up⟩
theorem names3 {a c l : Addr} {ns : List Int} {S0 S : Sto} {Q : NQ} {E} {T : TgQ Q E} (h : D3 a c l ns S0 S) (k : ∀ p (zs : List Str) S', S p = Option.none → S' p = some (.lst (zs.map D.str)) → zs.length = 12 → zs.Nodup → (∀ z ∈ zs, NameOk z ∧ z ≠ "zqzq") → D3 a c l ns S0 S' → Upd [a, l] S S' → Q (.ref p) S') : runF sp__law_names [.ref a] S Q E T := by
  simp_arith! [sp__law_names, m__law_names]
  have e3 : (0 : Int) < 3 := by decide
  have e8 : (0 : Int) < 8 := by decide
  have e64 : (0 : Int) < 64 := by decide
  try simp_arith []
  refine next3 h fun v S1 v0 v1 d1 u1 => ?_
  have mv := mod_lt (i := v) e3
  have e4 : DivOk v 8 := div_ok (by decide) (by decide)
  have e5 : DivOk v 3 := div_ok (by decide) (by decide)
  have e6 : DivOk v 64 := div_ok (by decide) (by decide)
  simp_arith [e3]
  intro p hp
  have d2 := d1.keep (Upd.new (o := .lst [.int 5, .int 21, .int 11]) hp)
  have u2 := u1.trans (Upd.new (A := [a, l]) (o := .lst [.int 5, .int 21, .int 11]) hp)
  have g1 : put S1 p (.lst [.int 5, .int 21, .int 11]) p = some (.lst [.int 5, .int 21, .int 11]) := put_same
  generalize put S1 p (.lst [.int 5, .int 21, .int 11]) = S2 at *
  rw [g1]
  obtain ⟨st, hst, -⟩ := idx_some (ns := [5, 21, 11]) mv.1 (by simpa using mv.2)
  simp only [List.map_cons, List.map_nil] at hst
  simp_arith [hst, e4, e8]
  have hst3 : st = 5 ∨ st = 21 ∨ st = 11 := by
    have c3 : v % 3 = 0 ∨ v % 3 = 1 ∨ v % 3 = 2 := by omega
    rcases c3 with w | w | w <;> rw [w] at hst
    · have : some (D.int 5) = some (D.int st) := hst
      injection this with this; injection this with this; omega
    · have : some (D.int 21) = some (D.int st) := hst
      injection this with this; injection this with this; omega
    · have : some (D.int 11) = some (D.int st) := hst
      injection this with this; injection this with this; omega
  have m8 := mod_lt (i := v) e8
  have tB := tl_cut_hi (z := Str.ofString "qzjvqzj") m8.1
  have lB : (cutS (Str.ofString "qzjvqzj") Option.none (some (v % 8))).length ≤ 7 := by
    rw [TL.len_tl, tB, brd, List.length_take]
    simp only [List.length_cons, List.length_nil]
    omega
  have oB : ∀ c ∈ TL.tl (cutS (Str.ofString "qzjvqzj") Option.none (some (v % 8))), LetOk c := fun c hc => by
    rw [tB] at hc
    exact brd_ok c (List.mem_of_mem_take hc)
  have sl : (64 : Nat) ≤ sizeLine := by decide
  rw [brd] at tB
  generalize cutS (Str.ofString "qzjvqzj") Option.none (some (v % 8)) = B at *
  refine ⟨by show (7 : Nat) ≤ sizeLine; decide, ?_⟩
  rw [if_pos (by omega)]
  dsimp only
  have n0 : (0 : Int) < (B.length : Nat) + 1 := by omega
  have ma := mod_lt (i := v / 8) n0
  generalize hat : v / 8 % (((B.length : Nat) : Int) + 1) = at' at *
  have tT := tl_cut_lo (z := B) ma.1
  have lT : (cutS B (some at') Option.none).length = B.length - at'.toNat := by
    rw [TL.len_tl, tT, List.length_drop, TL.len_tl]
  have oT : ∀ c ∈ TL.tl (cutS B (some at') Option.none), LetOk c := fun c hc => by
    rw [tT] at hc
    exact oB c (List.mem_of_mem_drop hc)
  have tP := tl_cut_hi (z := B) ma.1
  have lP : (TL.tl (cutS B Option.none (some at'))).length = at'.toNat := by
    rw [tP, List.length_take, ← TL.len_tl]; omega
  have oP : ∀ c ∈ TL.tl (cutS B Option.none (some at')), LetOk c := fun c hc => by
    rw [tP] at hc
    exact oB c (List.mem_of_mem_take hc)
  have hpre : TL.tl (cutS B Option.none (some at')) = [] ∨ (TL.tl (cutS B Option.none (some at')))[0]? = some 113 := by
    rw [tP]
    by_cases z : at'.toNat = 0
    · left; rw [z, List.take_zero]
    · right
      rw [List.getElem?_take, if_pos (by omega)]
      have l0 : 0 < (TL.tl B).length := by rw [← TL.len_tl]; omega
      rw [tB] at l0 ⊢
      rw [List.length_take] at l0
      rw [List.getElem?_take, if_pos (by simp only [List.length_cons, List.length_nil] at l0; omega)]
      rfl
  generalize hT : cutS B (some at') Option.none = T' at *
  refine ⟨n0, by omega, fun z hz => ⟨by unfold RngOk; decide, ?_⟩⟩
  have p0 : S z = Option.none := by
    cases hS : S z with
    | none => rfl
    | some o => rw [u2 z o (d2.free hz) hS] at hz; cases hz
  refine runL_invL (fun xs e S' => ∃ (i : Nat) (zs : List Str) (x8 x9 x10 : Option D), i ≤ 12 ∧ xs = rangeD i (12 - i) ∧ e = [some (.ref a), some (.int v), some (.int st), some (.str "abcdefghijklmnopqrstuvwxyz"), some (.str B), some (.int at'), some (.str T'), some (.ref z), x8, x9, x10] ∧ S' z = some (.lst (zs.map D.str)) ∧ zs.length = i ∧ (∀ (j : Nat) y, zs[j]? = some y → Nm (TL.tl (cutS B Option.none (some at'))) (v / 64) st j y) ∧ Upd [z] S2 S')
    (fun xs e S h => trivial) (fun e S' h => ?_) (fun x xs e S' C h hC => ?_) ?_
  · obtain ⟨i, zs, x8, x9, x10, hi, hx, rfl, g, hl, hn, u⟩ := h
    have i12 : i = 12 := by
      have := congrArg List.length hx
      rw [rgD_len, List.length_nil] at this
      omega
    simp_arith []
    have dd := d3_own d2 u2 hz u
    exact k z zs S' p0 g (by omega) (nm_nodup hst3 (by omega) hn) (fun y hy => by
      obtain ⟨j, hj, e⟩ := List.mem_iff_getElem.mp hy
      have nm := hn j y (by rw [List.getElem?_eq_getElem hj, e])
      exact ⟨nm.ok oP, nm.zq hpre⟩) dd.1 dd.2
  · obtain ⟨i, zs, x8, x9, x10, hi, hx, rfl, g, hl, hn, u⟩ := h
    have i12 : i < 12 := by
      have := congrArg List.length hx
      rw [rgD_len, List.length_cons] at this
      omega
    obtain ⟨f, hf⟩ : ∃ f, 12 - i = f + 1 := ⟨11 - i, by omega⟩
    rw [hf, rgD_cons] at hx
    obtain ⟨rfl, rfl⟩ := List.cons.inj hx
    have mo : N.MulOk st (i : Int) := .inl (by rcases hst3 with rfl | rfl | rfl <;> decide)
    have e26 : (0 : Int) < 26 := by decide
    have m26 := mod_lt (i := v / 64 + st * i) e26
    obtain ⟨la, lo⟩ := let_at m26.1 m26.2
    have lT' : T'.length ≤ 7 := by omega
    have lsz : T'.length ≤ sizeLine := by omega
    have nT : (0 : Int) < (T'.length : Nat) + 1 := by omega
    simp_arith [e6, e64, mo, e26, la, lsz, if_pos, nT]
    refine ⟨by show (26 : Nat) ≤ sizeLine; decide, fun y hy => ?_⟩
    have e2 : (0 : Int) < 2 := by decide
    have m2 := mod_lt (i := v / 3) e2
    obtain ⟨sz, fz, -⟩ := idx_some (ns := [(T'.length : Int), (i : Int) % ((T'.length : Nat) + 1)]) m2.1 (by simpa using m2.2)
    have sz0 : 0 ≤ sz := by
      have c2 : v / 3 % 2 = 0 ∨ v / 3 % 2 = 1 := by omega
      have mz := mod_lt (i := (i : Int)) nT
      rcases c2 with w | w <;> rw [w] at fz
      · have : some (D.int (T'.length : Int)) = some (D.int sz) := fz
        injection this with this; injection this with this; omega
      · have : some (D.int ((i : Int) % ((T'.length : Nat) + 1))) = some (D.int sz) := fz
        injection this with this; injection this with this; omega
    simp only [List.map_cons, List.map_nil] at fz
    have zy : z ≠ y := fun q => by rw [q, hy] at g; cases g
    have gz : put S' y (.lst [.int (T'.length : Int), .int ((i : Int) % ((T'.length : Nat) + 1))]) z = some (.lst (zs.map D.str)) := by rw [put_ne zy]; exact g
    simp_arith [e5, e2, put_same, fz, gz]
    have tW := tl_cut_hi (z := T') sz0
    have lW : (TL.tl (cutS T' Option.none (some sz))).length ≤ T'.length := by rw [tW, List.length_take, ← TL.len_tl]; omega
    have oW : ∀ c ∈ TL.tl (cutS T' Option.none (some sz)), LetOk c := fun c hc => by
      rw [tW] at hc
      exact oT c (List.mem_of_mem_take hc)
    have ea : ∀ a b : Str, (a ++ b).length = a.length + b.length := fun a b => by rw [TL.len_tl, TL.tl_append, List.length_append, ← TL.len_tl, ← TL.len_tl]
    have lP2 : (cutS B Option.none (some at')).length = at'.toNat := by rw [TL.len_tl]; exact lP
    have l1 : ∀ c : Nat, ({ cps := #[c] } : Str).length = 1 := fun c => rfl
    have lW2 : (cutS T' Option.none (some sz)).length ≤ T'.length := by rw [TL.len_tl]; exact lW
    refine ⟨⟨_, _, rfl, gz⟩, by omega, by rw [l1]; omega, by rw [ea, l1]; omega, by rw [List.length_map]; omega, hC _ _ ⟨i + 1, zs ++ [cutS B Option.none (some at') ++ { cps := #[97 + ((v / 64 + st * i) % 26).toNat] } ++ cutS T' Option.none (some sz)], _, _, _, by omega, ?_, rfl, by rw [put_same, List.map_append]; rfl, by rw [List.length_append, hl]; rfl, ?_, (u.trans (Upd.new hy)).trans (Upd.at (by simp))⟩⟩
    · rw [show 12 - (i + 1) = f by omega]
      rfl
    · intro j y' hj
      by_cases hji : j < zs.length
      · rw [List.getElem?_append_left hji] at hj
        exact hn j y' hj
      · have hji' : j = i := by
          have := (List.getElem?_eq_some_iff.mp hj).1
          simp at this
          omega
        subst hji'
        rw [List.getElem?_append_right (by omega), hl, Nat.sub_self, List.getElem?_cons_zero] at hj
        obtain rfl := Option.some.inj hj
        refine ⟨TL.tl (cutS T' Option.none (some sz)), ?_, ?_, oW, fun zz => ?_⟩
        · rw [TL.tl_append, TL.tl_append, List.append_assoc]
          rfl
        · rw [lP]
          omega
        · rw [zz, List.length_nil] at lP
          rw [tW, tT, ← lP, List.drop_zero, tB]
          exact (List.take_prefix _ _).trans (List.take_prefix _ _)
  · exact ⟨0, [], _, _, _, by decide, rfl, rfl, put_same, rfl, (fun j y h => by simp at h), Upd.new hz⟩

theorem D3.refl {a c l : Addr} {ns : List Int} {S : Sto} (h : St3 a c l ns S) : D3 a c l ns S S := ⟨h, Upd.refl⟩
theorem upd_drop {A B : List Addr} {S S' : Sto} (u : Upd B S S') (h : ∀ p ∈ B, p ∉ A → S p = Option.none) : Upd A S S' := fun a o n e => u a o (fun hb => by
  have := h a hb n
  rw [e] at this
  cases this) e
def maD (ms : List (Str × Mk)) : List (Key × D) := ms.map fun x => (.inr x.1, x.2.d)
/-- the law's own market -/
structure OwnAt (w wm wh : Addr) (ms : List (Str × Mk)) (hs : List Hnd) (S : Sto) : Prop where
  own : S w = some (.dic [(.inr "makers", .ref wm), (.inr "hands", .ref wh)])
  mak : S wm = some (.dic (maD ms))
  han : S wh = some (.dic (poD hs))
  mh : wm ≠ wh
  n1 : w ≠ wm
  n2 : w ≠ wh
theorem OwnAt.up {w wm wh : Addr} {ms : List (Str × Mk)} {hs : List Hnd} {S S' : Sto} {A : List Addr} (h : OwnAt w wm wh ms hs S) (u : Upd A S S') (n1 : w ∉ A) (n2 : wm ∉ A) (n3 : wh ∉ A) : OwnAt w wm wh ms hs S' := ⟨u _ _ n1 h.own, u _ _ n2 h.mak, u _ _ n3 h.han, h.mh, h.n1, h.n2⟩
theorem OwnAt.keep {w wm wh : Addr} {ms : List (Str × Mk)} {hs : List Hnd} {S S' : Sto} (h : OwnAt w wm wh ms hs S) (u : Keeps S S') : OwnAt w wm wh ms hs S' := h.up u (by simp) (by simp) (by simp)
theorem own1 {wm wh : Addr} : dget [((.inr "makers" : Key), D.ref wm), (.inr "hands", .ref wh)] (.inr "makers") = some (.ref wm) := rfl
theorem own2 {wm wh : Addr} : dget [((.inr "makers" : Key), D.ref wm), (.inr "hands", .ref wh)] (.inr "hands") = some (.ref wh) := rfl
theorem ma_keys {ms : List (Str × Mk)} {nm : Str} (h : ∀ r ∈ ms, r.1 ≠ nm) : ∀ p ∈ maD ms, p.1 ≠ (.inr nm : Key) := by
  intro p hp
  obtain ⟨r, hr, rfl⟩ := List.mem_map.mp hp
  exact inr_ne (h r hr)
theorem market3 {a c l : Addr} {ns : List Int} {S : Sto} {Q : NQ} {E} {T : TgQ Q E} (h : St3 a c l ns S) (k : ∀ w wm wh (ms : List (Str × Mk)) (hs : List Hnd) S', S w = Option.none → S wm = Option.none → S wh = Option.none → OwnAt w wm wh ms hs S' → MTxt ms hs → (∀ x ∈ ms, x.1 ≠ "zqzq") → (∀ x ∈ hs, x.nm ≠ "zqzq") → St3 a c l ns S' → Upd [a, l] S S' → Q (.ref w) S') : runF sp__law_market [.ref a] S Q E T := by
  simp_arith! [sp__law_market, m__law_market]
  try simp_arith []
  refine names3 (D3.refl h) fun pz zs S1 hpz g1 l12 nd zok d1 u1 => ?_
  try simp_arith []
  refine next3 d1 fun v S2 v0 v1 d2 u2 => ?_
  have g2 : S2 pz = some (.lst (zs.map D.str)) := u2 _ _ ((D3.refl h).free hpz) g1
  have us2 := u1.trans u2
  have st2 := d2.s
  simp_arith []
  intro w hw wm hwm wh hwh
  have w0 : S w = Option.none := us2.fresh' hw ((D3.refl st2).free hw)
  have K1 : Keeps S2 (put S2 w (.dic [])) := Upd.new hw
  have K2 : Keeps (put S2 w (.dic [])) (put (put S2 w (.dic [])) wm (.dic [])) := Upd.new hwm
  have K3 : Keeps (put (put S2 w (.dic [])) wm (.dic [])) (put (put (put S2 w (.dic [])) wm (.dic [])) wh (.dic [])) := Upd.new hwh
  have m2 : S2 wm = Option.none := K1.fresh' hwm (by simp)
  have m0 : S wm = Option.none := us2.fresh' m2 ((D3.refl st2).free m2)
  have h2 : S2 wh = Option.none := (Upd.trans K1 K2).fresh' hwh (by simp)
  have h0 : S wh = Option.none := us2.fresh' h2 ((D3.refl st2).free h2)
  have wwm : w ≠ wm := fun z => by rw [← z, put_same] at hwm; cases hwm
  have wwh : w ≠ wh := fun z => by rw [← z, put_ne wwm, put_same] at hwh; cases hwh
  have mh : wm ≠ wh := fun z => by rw [← z, put_same] at hwh; cases hwh
  have f1 : (put (put (put S2 w (.dic [])) wm (.dic [])) wh (.dic [])) w = some (.dic []) := by rw [put_ne wwh, put_ne wwm, put_same]
  have f2 : (put (put (put S2 w (.dic [])) wm (.dic [])) wh (.dic [])) wm = some (.dic []) := by rw [put_ne mh, put_same]
  have f3 : (put (put (put S2 w (.dic [])) wm (.dic [])) wh (.dic [])) wh = some (.dic []) := by rw [put_same]
  have KK : Keeps S2 (put (put (put S2 w (.dic [])) wm (.dic [])) wh (.dic [])) := Upd.trans (Upd.trans K1 K2) K3
  generalize put (put (put S2 w (.dic [])) wm (.dic [])) wh (.dic []) = S3 at *
  have e6 : (0 : Int) < 6 := by decide
  have e7 : (0 : Int) < 7 := by decide
  have e8 : DivOk v 6 := div_ok (by decide) (by decide)
  have n6 := mod_lt (i := v) e6
  refine ⟨f1, by decide, e6, by unfold RngOk; omega, ?_⟩
  have em : mergeD [] [((.inr "makers" : Key), D.ref wm), (.inr "hands", .ref wh)] = [(.inr "makers", .ref wm), (.inr "hands", .ref wh)] := by simp [mergeD, dput, ofString_inj]
  rw [em]
  have K4 : Keeps S2 (put S3 w (.dic [(.inr "makers", .ref wm), (.inr "hands", .ref wh)])) := keeps_of (Upd.trans (Keeps.up KK) (Upd.at (by simp))) hw
  have O4 : OwnAt w wm wh [] [] (put S3 w (.dic [(.inr "makers", .ref wm), (.inr "hands", .ref wh)])) := ⟨put_same, by rw [put_ne (Ne.symm wwm)]; exact f2, by rw [put_ne (Ne.symm wwh)]; exact f3, mh, wwm, wwh⟩
  have g4 := K4 _ _ (by simp) g2
  have st4 := (d2.keep K4).s
  generalize put S3 w (.dic [(.inr "makers", .ref wm), (.inr "hands", .ref wh)]) = S4 at *
  have wfr : w ∉ [a, l] := (D3.refl st2).free hw
  have mfr : wm ∉ [a, l] := (D3.refl st2).free m2
  have hfr : wh ∉ [a, l] := (D3.refl st2).free h2
  have zfr : pz ∉ [a, l] := (D3.refl h).free hpz
  have cm : c ≠ wm := fun z => by
    obtain ⟨_, _, _, n, ls, q1, q2, q3, q4⟩ := st2
    rw [z, m2] at q2; cases q2
  have ch : c ≠ wh := fun z => by
    obtain ⟨_, _, _, n, ls, q1, q2, q3, q4⟩ := st2
    rw [z, h2] at q2; cases q2
  have zm : pz ≠ wm := fun z => by rw [z, m2] at g2; cases g2
  have zh : pz ≠ wh := fun z => by rw [z, h2] at g2; cases g2
  simp only [List.mem_cons, List.not_mem_nil, or_false, not_or] at wfr mfr hfr zfr
  have sl : (64 : Nat) ≤ sizeLine := by decide
  refine runL_invL (fun xs e S' => ∃ (i : Nat) (ms : List (Str × Mk)) (x4 : Option D), i ≤ (1 + v % 6).toNat ∧ xs = rangeD i ((1 + v % 6).toNat - i) ∧ e = [some (.ref a), some (.ref pz), some (.int v), some (.ref w), x4] ∧ S' pz = some (.lst (zs.map D.str)) ∧ ms.map (·.1) = zs.take i ∧ (∀ x ∈ ms, x.2.Ok) ∧ OwnAt w wm wh ms [] S' ∧ St3 a c l ns S' ∧ Upd [a, l, wm, wh] S4 S')
    (fun xs e S h => trivial) (fun e S' h => ?_) (fun x xs e S' C h hC => ?_) ?_
  · obtain ⟨i, ms, x4, hi, hx, rfl, gz, hms, hok, O, st5, u5⟩ := h
    have i12 : i = (1 + v % 6).toNat := by
      have := congrArg List.length hx
      rw [rgD_len, List.length_nil] at this
      omega
    simp_arith [e6, e7, e8]
    refine ⟨by unfold RngOk; omega, ?_⟩
    have n7 := mod_lt (i := v / 6) e7
    have lms : ms.length = i := by
      have := congrArg List.length hms
      rw [List.length_map, List.length_take] at this
      omega
    refine runL_invL (fun xs e S' => ∃ (j : Nat) (hs : List Hnd) (x4 : Option D), j ≤ (v / 6 % 7).toNat ∧ xs = rangeD j ((v / 6 % 7).toNat - j) ∧ e = [some (.ref a), some (.ref pz), some (.int v), some (.ref w), x4] ∧ S' pz = some (.lst (zs.map D.str)) ∧ hs.map (·.nm) = (zs.drop 6).take j ∧ (∀ x ∈ hs, x.Ok) ∧ OwnAt w wm wh ms hs S' ∧ St3 a c l ns S' ∧ Upd [a, l, wm, wh] S4 S')
      (fun xs e S h => trivial) (fun e S' h => ?_) (fun x xs e S' C h hC => ?_) ?_
    · obtain ⟨j, hs, x4, hj, hx, rfl, gz, hhs, hho, O, st5, u5⟩ := h
      have j12 : j = (v / 6 % 7).toNat := by
        have := congrArg List.length hx
        rw [rgD_len, List.length_nil] at this
        omega
      have lhs : hs.length = j := by
        have := congrArg List.length hhs
        rw [List.length_map, List.length_take, List.length_drop] at this
        omega
      simp_arith []
      refine k w wm wh ms hs S' w0 m0 h0 O ⟨?_, by omega, by omega, fun x hx => ⟨hok x hx, (zok _ ?_).1⟩, fun x hx => ⟨hho x hx, (zok _ ?_).1⟩, ?_⟩ (fun x hx => (zok _ ?_).2) (fun x hx => (zok _ ?_).2) st5 ?_
      · intro z
        rw [z, List.length_nil] at lms
        omega
      · have : x.1 ∈ zs.take i := by rw [← hms]; exact List.mem_map.mpr ⟨x, hx, rfl⟩
        exact List.mem_of_mem_take this
      · have : x.nm ∈ (zs.drop 6).take j := by rw [← hhs]; exact List.mem_map.mpr ⟨x, hx, rfl⟩
        exact List.mem_of_mem_drop (List.mem_of_mem_take this)
      · rw [hms, hhs]
        have sb : (zs.take i ++ (zs.drop 6).take j).Sublist zs := by
          have q := List.take_append_drop 6 zs
          have q1 : (zs.take i).Sublist (zs.take 6) := by
            have := List.take_sublist i (zs.take 6)
            rw [List.take_take, Nat.min_eq_left (by omega)] at this
            exact this
          have q2 : ((zs.drop 6).take j).Sublist (zs.drop 6) := List.take_sublist _ _
          have q3 := q1.append q2
          rw [q] at q3
          exact q3
        exact sb.nodup nd
      · have : x.1 ∈ zs.take i := by rw [← hms]; exact List.mem_map.mpr ⟨x, hx, rfl⟩
        exact List.mem_of_mem_take this
      · have : x.nm ∈ (zs.drop 6).take j := by rw [← hhs]; exact List.mem_map.mpr ⟨x, hx, rfl⟩
        exact List.mem_of_mem_drop (List.mem_of_mem_take this)
      · refine upd_drop (B := [a, l, wm, wh]) (Upd.trans (us2.mono (by simp)) (Upd.trans (Keeps.up K4) u5)) ?_
        intro p hp hn
        simp only [List.mem_cons, List.not_mem_nil, or_false, not_or] at hp hn
        rcases hp with rfl | rfl | rfl | rfl
        · exact absurd rfl hn.1
        · exact absurd rfl hn.2
        · exact m0
        · exact h0
    · obtain ⟨j, hs, x4, hj, hx, rfl, gz, hhs, hho, O, st5, u5⟩ := h
      have j12 : j < (v / 6 % 7).toNat := by
        have := congrArg List.length hx
        rw [rgD_len, List.length_cons] at this
        omega
      have lhs : hs.length = j := by
        have := congrArg List.length hhs
        rw [List.length_map, List.length_take, List.length_drop] at this
        omega
      obtain ⟨f, hf⟩ : ∃ f, (v / 6 % 7).toNat - j = f + 1 := ⟨(v / 6 % 7).toNat - j - 1, by omega⟩
      rw [hf, rgD_cons] at hx
      obtain ⟨rfl, rfl⟩ := List.cons.inj hx
      try simp_arith []
      refine amount3 (D3.refl st5) fun x S6 x0 d6 u6 => ?_
      try simp_arith []
      refine amount3 d6 fun y S7 y0 d7 u7 => ?_
      have u67 := u6.trans u7
      have O6 : OwnAt w wm wh ms hs S7 := O.up u67 (by simpa using wfr) (by simpa using mfr) (by simpa using hfr)
      have g6 := u67 _ _ (by simpa using zfr) gz
      have at6 : atI (zs.map D.str) (6 + (j : Int)) = some (.str (zs[6 + j]'(by omega))) := by
        rw [atI_nat' (by omega), List.getElem?_map, show (6 + (j : Int)).toNat = 6 + j by omega, List.getElem?_eq_getElem (by omega)]
        rfl
      have new : ∀ r ∈ hs, r.nm ≠ zs[6 + j]'(by omega) := by
        intro r hr z
        have hr1 : r.nm ∈ (zs.drop 6).take j := by rw [← hhs]; exact List.mem_map.mpr ⟨r, hr, rfl⟩
        obtain ⟨t, ht, e⟩ := List.mem_iff_getElem.mp hr1
        rw [List.length_take] at ht
        rw [List.getElem_take, List.getElem_drop, z] at e
        have := (List.getElem_inj nd).mp e
        omega
      have dp : dput (poD hs) (.inr (zs[6 + j]'(by omega))) (.tup [.int x, .int y]) = poD (hs ++ [⟨zs[6 + j]'(by omega), x, y⟩]) := by
        rw [dput_new (po_keys new)]
        unfold poD
        rw [List.map_append]
        rfl
      have lm : (poD hs).length < sizeLine := by
        unfold poD
        rw [List.length_map]
        omega
      simp_arith [O6.own, own2, g6, at6, O6.han, dp, lm]
      have u8 : Upd [wh] S7 (put S7 wh (.dic (poD (hs ++ [⟨zs[6 + j]'(by omega), x, y⟩])))) := Upd.at (by simp)
      refine hC _ _ ⟨j + 1, hs ++ [⟨zs[6 + j]'(by omega), x, y⟩], _, by omega, by rw [show (v / 6 % 7).toNat - (j + 1) = f by omega]; rfl, rfl, u8 _ _ (by simpa using zh) g6, ?_, ?_, ⟨u8 _ _ (by simpa using wwh) O6.own, u8 _ _ (by simpa using mh) O6.mak, put_same, mh, wwm, wwh⟩, d7.s.up u8 (by simpa using Ne.symm hfr.1) (by simpa using ch) (by simpa using Ne.symm hfr.2), (u5.trans (u67.mono (by simp))).trans (u8.mono (by simp))⟩
      · rw [List.map_append, hhs, List.take_add_one, List.getElem?_eq_getElem (by rw [List.length_drop]; omega), List.getElem_drop]
        rfl
      · intro z hz
        rcases List.mem_append.mp hz with hz | hz
        · exact hho z hz
        · rw [List.mem_singleton.mp hz]; exact ⟨x0.1, x0.2, y0.1, y0.2⟩
    · exact ⟨0, [], _, by omega, rfl, rfl, gz, by simp, (fun x hx => by cases hx), O, st5, u5⟩
  · obtain ⟨i, ms, x4, hi, hx, rfl, gz, hms, hok, O, st5, u5⟩ := h
    have i12 : i < (1 + v % 6).toNat := by
      have := congrArg List.length hx
      rw [rgD_len, List.length_cons] at this
      omega
    obtain ⟨f, hf⟩ : ∃ f, (1 + v % 6).toNat - i = f + 1 := ⟨(1 + v % 6).toNat - i - 1, by omega⟩
    rw [hf, rgD_cons] at hx
    obtain ⟨rfl, rfl⟩ := List.cons.inj hx
    try simp_arith []
    refine plain3 (D3.refl st5) fun m S6 om d6 u6 => ?_
    have O6 : OwnAt w wm wh ms [] S6 := O.up u6 (by simpa using wfr) (by simpa using mfr) (by simpa using hfr)
    have g6 := u6 _ _ (by simpa using zfr) gz
    have at6 : atI (zs.map D.str) (i : Int) = some (.str (zs[i]'(by omega))) := by
      rw [atI_nat' (by omega), List.getElem?_map, Int.toNat_natCast, List.getElem?_eq_getElem (by omega)]
      rfl
    have new : ∀ r ∈ ms, r.1 ≠ zs[i]'(by omega) := by
      intro r hr z
      have hr1 : r.1 ∈ zs.take i := by rw [← hms]; exact List.mem_map.mpr ⟨r, hr, rfl⟩
      obtain ⟨j, hj, e⟩ := List.mem_iff_getElem.mp hr1
      rw [List.length_take] at hj
      rw [List.getElem_take, z] at e
      have := (List.getElem_inj nd).mp e
      omega
    have dp : dput (maD ms) (.inr (zs[i]'(by omega))) m.d = maD (ms ++ [(zs[i]'(by omega), m)]) := by
      rw [dput_new (ma_keys new)]
      unfold maD
      rw [List.map_append]
      rfl
    have lm : (maD ms).length < sizeLine := by
      have := congrArg List.length hms
      rw [List.length_map, List.length_take] at this
      unfold maD
      rw [List.length_map]
      omega
    simp_arith [O6.own, own1, g6, at6, O6.mak, dp, lm]
    have u7 : Upd [wm] S6 (put S6 wm (.dic (maD (ms ++ [(zs[i]'(by omega), m)])))) := Upd.at (by simp)
    refine hC _ _ ⟨i + 1, ms ++ [(zs[i]'(by omega), m)], _, by omega, by rw [show (1 + v % 6).toNat - (i + 1) = f by omega]; rfl, rfl, u7 _ _ (by simpa using zm) g6, ?_, ?_, ⟨u7 _ _ (by simpa using wwm) O6.own, put_same, u7 _ _ (by simpa using Ne.symm mh) O6.han, mh, wwm, wwh⟩, d6.s.up u7 (by simpa using Ne.symm mfr.1) (by simpa using cm) (by simpa using Ne.symm mfr.2), (u5.trans (u6.mono (by simp))).trans (u7.mono (by simp))⟩
    · rw [List.map_append, hms, List.take_add_one, List.getElem?_eq_getElem (by omega)]
      rfl
    · intro x hx
      rcases List.mem_append.mp hx with hx | hx
      · exact hok x hx
      · rw [List.mem_singleton.mp hx]; exact om
  · exact ⟨0, [], _, by omega, rfl, rfl, g4, by simp, (fun x hx => by cases hx), O4, st4, Upd.refl⟩

/-! ### the law's own text and sums -/
theorem law_row_ok {nm : Str} {m : Mk} {S : Sto} {Q : NQ} {E} {T : TgQ Q E} (no : NameOk nm) (o : m.Ok) (k : ∀ S', Keeps S S' → Q (.str (rowM (nm, m))) S') : runF sp__law_maker_row [.str nm, m.d] S Q E T := by
  simp_arith! [sp__law_maker_row, m__law_maker_row]
  have q1 := o.s0; have q2 := o.s1; have q3 := o.c0; have q4 := o.c1
  obtain ⟨t0, b1, b2, tb⟩ := o.due
  have n1 : m.s.natAbs < 2 ^ 1900 := nat1900 (by omega)
  have n2 : m.c.natAbs < 2 ^ 1900 := nat1900 (by omega)
  have n3 : m.t.natAbs < 2 ^ 1900 := nat1900 (by omega)
  have n4 : m.b.natAbs < 2 ^ 1900 := nat1900 (by omega)
  have sl : (10000 : Nat) ≤ sizeLine := by decide
  obtain ⟨w1, w2, w3⟩ := mwords_ok no o
  have js := jo_size w1 w3
  have wd := (word_due o.due).len
  have wt := (word_sh t0 (by omega)).len
  have wb := (word_sh (by omega : 0 ≤ m.b) (by omega)).len
  have es : (Str.ofString "/").length = 1 := by decide
  have ea : ∀ a b : Str, (a ++ b).length = a.length + b.length := fun a b => by rw [TL.len_tl, TL.tl_append, List.length_append, ← TL.len_tl, ← TL.len_tl]
  rw [md m]
  simp_arith [cut_4, n1, n2, n3, n4, atI_0, atI_1, atI_2, atI_3]
  intro p hp
  have K1 : Keeps S (put S p (.lst [.str "maker", .str nm, .str m.word, .str (shI m.s), .str (shI m.c)])) := Upd.new hp
  have g1 : put S p (.lst [.str "maker", .str nm, .str m.word, .str (shI m.s), .str (shI m.c)]) p = some (.lst [.str "maker", .str nm, .str m.word, .str (shI m.s), .str (shI m.c)]) := put_same
  refine ⟨⟨_, _, rfl, g1⟩, ?_⟩
  have h1 : (Str.ofString (toString m.t)).length + (Str.ofString "/").length ≤ sizeLine := by
    show (shI m.t).length + _ ≤ _
    omega
  have h2 : (Str.ofString (toString m.t) ++ Str.ofString "/").length + (Str.ofString (toString m.b)).length ≤ sizeLine := by
    rw [ea]
    show (shI m.t).length + _ + (shI m.b).length ≤ _
    omega
  refine ⟨h1, h2, ?_⟩
  rw [put_same]
  dsimp only
  rw [put_put]
  refine ⟨by show (5 : Nat) < sizeLine; decide, ?_⟩
  have K2 : Keeps S (put S p (.lst [.str "maker", .str nm, .str m.word, .str (shI m.s), .str (shI m.c), .str (dueI m.t m.b)])) := Upd.new hp
  have g2 : put S p (.lst [.str "maker", .str nm, .str m.word, .str (shI m.s), .str (shI m.c), .str (dueI m.t m.b)]) p = some (.lst [.str "maker", .str nm, .str m.word, .str (shI m.s), .str (shI m.c), .str (dueI m.t m.b)]) := put_same
  show runL _ _ _ _ _ _ (put S p (.lst [.str "maker", .str nm, .str m.word, .str (shI m.s), .str (shI m.c), .str (dueI m.t m.b)])) _
  have e6 : mwords nm m = [Str.ofString "maker", nm, m.word, shI m.s, shI m.c, dueI m.t m.b] ++ m.tails := rfl
  refine runL_invL (fun xs e S2 => (∃ r x3, e = [some (.str nm), some m.d, some (.ref r), x3] ∧ ((xs = [] ∧ S2 r = some (.lst ((mwords nm m).map D.str))) ∨ (xs = m.more ∧ xs ≠ [] ∧ S2 r = some (.lst [.str "maker", .str nm, .str m.word, .str (shI m.s), .str (shI m.c), .str (dueI m.t m.b)])))) ∧ Keeps S S2)
    (fun xs e S2 h => trivial) (fun e S2 h => ?_) (fun x xs e S2 C h hC => ?_) ?_
  · obtain ⟨⟨r, x3, rfl, ⟨_, g2⟩ | ⟨_, z, _⟩⟩, K⟩ := h
    · simp_arith [g2]
      rw [strsM]
      refine ⟨js, k S2 K⟩
    · exact absurd rfl z
  · obtain ⟨⟨r, x3, rfl, ⟨z, _⟩ | ⟨ex, _, g2⟩⟩, K⟩ := h
    · cases z
    have nr : m.k ≠ .pr := by
      intro hk
      unfold Mk.more at ex
      rw [hk] at ex
      cases ex
    have tl : m.tails = [shI m.x, shI m.y] := by
      unfold Mk.tails
      cases hk : m.k with
      | pr => exact absurd hk nr
      | st => rfl
      | su => rfl
    have mo : m.more = [.tup [.int m.x, .int m.y]] := by
      unfold Mk.more
      cases hk : m.k with
      | pr => exact absurd hk nr
      | st => rfl
      | su => rfl
    rw [mo] at ex
    obtain ⟨rfl, rfl⟩ := List.cons.inj ex
    have xy : 0 ≤ m.x ∧ m.x ≤ 1000000000000 ∧ 0 ≤ m.y ∧ m.y ≤ 1000000000000 := by
      cases hk : m.k with
      | pr => exact absurd hk nr
      | st => obtain ⟨x0, x1, y0, y1, _, _⟩ := o.st hk; exact ⟨x0, x1, y0, y1⟩
      | su => obtain ⟨x0, x1, y0, y1⟩ := o.su hk; exact ⟨by omega, by omega, by omega, by omega⟩
    have n5 : m.x.natAbs < 2 ^ 1900 := nat1900 (by omega)
    have n6 : m.y.natAbs < 2 ^ 1900 := nat1900 (by omega)
    have at0 : atI ([.int m.x, .int m.y] : List D) 0 = some (.int m.x) := rfl
    have at1 : atI ([.int m.x, .int m.y] : List D) 1 = some (.int m.y) := rfl
    simp_arith [n5, n6, at0, at1]
    intro z hz
    have K2 : Keeps S2 (put S2 z (.lst [.str (shI m.x), .str (shI m.y)])) := Upd.new hz
    have g3 := K2 _ _ (by simp) g2
    have g4 : put S2 z (.lst [.str (shI m.x), .str (shI m.y)]) z = some (.lst [.str (shI m.x), .str (shI m.y)]) := put_same
    have e2 : put S2 z (.lst [.str (Str.ofString (toString m.x)), .str (Str.ofString (toString m.y))]) = put S2 z (.lst [.str (shI m.x), .str (shI m.y)]) := rfl
    rw [e2]
    generalize put S2 z (.lst [.str (shI m.x), .str (shI m.y)]) = S3 at *
    rw [g3, g4]
    refine ⟨by show (8 : Nat) ≤ sizeLine; decide, fun y hy => hC _ _ ⟨⟨_, _, rfl, .inl ⟨rfl, ?_⟩⟩, Upd.trans (Upd.trans K K2) (Upd.new hy)⟩⟩
    rw [put_same, e6, tl]
    rfl
  · refine ⟨⟨_, _, by rw [← md m], ?_⟩, K2⟩
    cases hk : m.k with
    | pr =>
      left
      refine ⟨by unfold Mk.more; rw [hk], ?_⟩
      rw [g2, e6]
      unfold Mk.tails
      rw [hk]
      rfl
    | st =>
      right
      exact ⟨rfl, by unfold Mk.more; rw [hk]; simp, g2⟩
    | su =>
      right
      exact ⟨rfl, by unfold Mk.more; rw [hk]; simp, g2⟩
theorem law_rows_ok {w wm wh : Addr} {ms : List (Str × Mk)} {hs : List Hnd} {S : Sto} {Q : NQ} {E} {T : TgQ Q E} (O : OwnAt w wm wh ms hs S) (X : MTxt ms hs) (k : ∀ p S', S p = Option.none → S' p = some (.lst ((ms.map rowM ++ hs.map rowH).map D.str)) → Keeps S S' → Q (.ref p) S') : runF sp__law_rows [.ref w] S Q E T := by
  simp_arith! [sp__law_rows, m__law_rows]
  simp_arith []
  intro p hp
  have K1 : Keeps S (put S p (.lst [])) := Upd.new hp
  have O1 := O.keep K1
  have g1 : put S p (.lst []) p = some (.lst []) := put_same
  generalize put S p (.lst []) = S1 at *
  refine lock_s O1.mak ?_
  have gw : put S1 wm (.lok (maD ms)) w = some (.dic [(.inr "makers", .ref wm), (.inr "hands", .ref wh)]) := by rw [put_ne O1.n1, O1.own]
  have gm : put S1 wm (.lok (maD ms)) wm = some (.lok (maD ms)) := put_same
  have np : p ≠ wm := fun z => by rw [z, O1.mak] at g1; cases g1
  have gp : put S1 wm (.lok (maD ms)) p = some (.lst []) := by rw [put_ne np, g1]
  simp_arith [gw, own1, gm]
  have sl : (10000 : Nat) ≤ sizeLine := by decide
  have m6 := X.m6
  have h6 := X.h6
  refine runL_invL (fun xs e S' => ∃ (done rest : List (Str × Mk)) (x2 x3 x4 : Option D), done ++ rest = ms ∧ xs = rest.map (fun x => D.tup [.str x.1, x.2.d]) ∧ e = [some (.ref w), some (.ref p), x2, x3, x4] ∧ S' p = some (.lst ((done.map rowM).map D.str)) ∧ Upd [p] (put S1 wm (.lok (maD ms))) S')
    (fun xs e S2 h => trivial) (fun e S' h => ?_) (fun x xs e S' C h hC => ?_) ?_
  · obtain ⟨done, rest, x2, x3, x4, hd, hx, rfl, gq, u⟩ := h
    have r0 : rest = [] := by
      cases rest with
      | nil => rfl
      | cons y r => cases hx
    rw [r0, List.append_nil] at hd
    subst hd
    have u2 : Upd [p] S1 (put S' wm (.dic (maD done))) := lock_upd O1.mak u
    have O2 := O1.up u2 (by simp; exact fun z => by rw [← z, O1.own] at g1; cases g1) (by simpa using Ne.symm np) (by simp; exact fun z => by rw [← z, O1.han] at g1; cases g1)
    have g2 : put S' wm (.dic (maD done)) p = some (.lst ((done.map rowM).map D.str)) := by rw [put_ne np, gq]
    simp_arith []
    generalize put S' wm (.dic (maD done)) = S2 at *
    refine lock_s O2.han ?_
    have gw : put S2 wh (.lok (poD hs)) w = some (.dic [(.inr "makers", .ref wm), (.inr "hands", .ref wh)]) := by rw [put_ne O2.n2, O2.own]
    have gm : put S2 wh (.lok (poD hs)) wh = some (.lok (poD hs)) := put_same
    have np2 : p ≠ wh := fun z => by rw [z, O2.han] at g2; cases g2
    have gp2 : put S2 wh (.lok (poD hs)) p = some (.lst ((done.map rowM).map D.str)) := by rw [put_ne np2, g2]
    simp_arith [gw, own2, gm]
    refine runL_invL (fun xs e S' => ∃ (dh rest : List Hnd) (x2 x3 x4 : Option D), dh ++ rest = hs ∧ xs = rest.map (fun h => D.tup [.str h.nm, .tup [.int h.a, .int h.b]]) ∧ e = [some (.ref w), some (.ref p), x2, x3, x4] ∧ S' p = some (.lst ((done.map rowM ++ dh.map rowH).map D.str)) ∧ Upd [p] (put S2 wh (.lok (poD hs))) S')
      (fun xs e S2 h => trivial) (fun e S' h => ?_) (fun x xs e S' C h hC => ?_) ?_
    · obtain ⟨dh, rest, x2, x3, x4, hd, hx, rfl, gq, u⟩ := h
      have r0 : rest = [] := by
        cases rest with
        | nil => rfl
        | cons y r => cases hx
      rw [r0, List.append_nil] at hd
      subst hd
      have u3 : Upd [p] S2 (put S' wh (.dic (poD dh))) := lock_upd O2.han u
      have g3 : put S' wh (.dic (poD dh)) p = some (.lst ((done.map rowM ++ dh.map rowH).map D.str)) := by rw [put_ne np2, gq]
      simp_arith []
      exact k p _ hp g3 (keeps_of (Upd.trans (Upd.trans (Keeps.up K1) u2) u3) hp)
    · obtain ⟨dh, rest, x2, x3, x4, hd, hx, rfl, gq, u⟩ := h
      cases rest with
      | nil => cases hx
      | cons y rest =>
        rw [List.map_cons] at hx
        obtain ⟨rfl, rfl⟩ := List.cons.inj hx
        have ym : y ∈ hs := by rw [← hd]; simp
        obtain ⟨o, no⟩ := X.ho y ym
        obtain ⟨w1, w2, w3⟩ := hwords_ok no o
        have js := jo_size w1 w3
        obtain ⟨a0, a1, b0, b1⟩ := o
        have n1 : y.a.natAbs < 2 ^ 1900 := nat1900 (by omega)
        have n2 : y.b.natAbs < 2 ^ 1900 := nat1900 (by omega)
        have at0 : atI ([.int y.a, .int y.b] : List D) 0 = some (.int y.a) := rfl
        have at1 : atI ([.int y.a, .int y.b] : List D) 1 = some (.int y.b) := rfl
        simp_arith [n1, n2, at0, at1]
        refine ⟨⟨_, _, rfl, gq⟩, fun z hz => ?_⟩
        have e2 : put S' z (.lst [.str "hand", .str y.nm, .str (Str.ofString (toString y.a)), .str (Str.ofString (toString y.b))]) = put S' z (.lst ((hwords y).map D.str)) := rfl
        have K2 : Keeps S' (put S' z (.lst ((hwords y).map D.str))) := Upd.new hz
        have g3 := K2 _ _ (by simp) gq
        have g4 : put S' z (.lst ((hwords y).map D.str)) z = some (.lst ((hwords y).map D.str)) := put_same
        rw [e2]
        generalize put S' z (.lst ((hwords y).map D.str)) = S3 at *
        rw [g4]
        dsimp only
        rw [strsM]
        dsimp only
        rw [g3]
        have ll : ((done.map rowM ++ dh.map rowH).map D.str).length < sizeLine := by
          have := congrArg List.length hd
          simp only [List.length_append, List.length_cons, List.length_map] at this ⊢
          omega
        refine ⟨js, ll, hC _ _ ⟨dh ++ [y], rest, _, _, _, by rw [← hd]; simp, rfl, rfl, ?_, (u.trans (Keeps.up K2)).trans (Upd.at (by simp))⟩⟩
        rw [put_same, List.map_append, List.map_append, List.map_append, List.map_append, List.append_assoc]
        rfl
    · exact ⟨[], hs, _, _, _, rfl, by unfold poD; rw [List.map_map]; rfl, rfl, by rw [gp2]; simp, Upd.refl⟩
  · obtain ⟨done, rest, x2, x3, x4, hd, hx, rfl, gq, u⟩ := h
    cases rest with
    | nil => cases hx
    | cons y rest =>
      rw [List.map_cons] at hx
      obtain ⟨rfl, rfl⟩ := List.cons.inj hx
      have ym : y ∈ ms := by rw [← hd]; simp
      obtain ⟨o, no⟩ := X.mo y ym
      try simp_arith []
      refine ⟨⟨_, _, rfl, gq⟩, ?_⟩
      refine law_row_ok no o fun S3 K3 => ?_
      have g3 := K3 _ _ (by simp) gq
      have ll : ((done.map rowM).map D.str).length < sizeLine := by
        have := congrArg List.length hd
        simp only [List.length_append, List.length_cons] at this
        simp only [List.length_map]
        omega
      simp_arith [g3, ll]
      refine hC _ _ ⟨done ++ [y], rest, _, _, _, by rw [← hd]; simp, rfl, rfl, ?_, (u.trans (Keeps.up K3)).trans (Upd.at (by simp))⟩
      rw [put_same, List.map_append, List.map_append]
      rfl
  · exact ⟨[], ms, _, _, _, rfl, by unfold maD; rw [List.map_map]; rfl, rfl, gp, Upd.refl⟩

/-! ### the word of a refusal -/
def wordOf (c : Str) : Str :=
  if c = "BadMaker" then "maker" else if c = "BadWare" then "ware" else if c = "BadCount" then "count" else if c = "TooMuch" then "much" else if c = "BadShares" then "shares" else if c = "NoText" then "text"
  else if c = "NoName" then "name" else if c = "TooLittle" then "little" else if c = "BadRumour" then "rumour" else if c = "NoParting" then "parting" else "line"
def wordF : D → Option D := fun x => match x with
  | .tup [.str w, .bl true] => some (.str w)
  | _ => Option.none
theorem word_list {c : Str} (hc : c ∈ CL) : List.filterMap wordF [.tup [.str "maker", .bl (isT (.cls c) (.cls "BadMaker"))], .tup [.str "ware", .bl (isT (.cls c) (.cls "BadWare"))], .tup [.str "count", .bl (isT (.cls c) (.cls "BadCount"))], .tup [.str "much", .bl (isT (.cls c) (.cls "TooMuch"))], .tup [.str "shares", .bl (isT (.cls c) (.cls "BadShares"))], .tup [.str "text", .bl (isT (.cls c) (.cls "NoText"))], .tup [.str "name", .bl (isT (.cls c) (.cls "NoName"))], .tup [.str "little", .bl (isT (.cls c) (.cls "TooLittle"))], .tup [.str "rumour", .bl (isT (.cls c) (.cls "BadRumour"))], .tup [.str "parting", .bl (isT (.cls c) (.cls "NoParting"))], .tup [.str "line", .bl (isT (.cls c) (.cls "NoLine"))], .tup [.str "other", .bl (!true)]] = [.str (wordOf c)] := by
  simp only [CL, List.mem_cons, List.not_mem_nil, or_false] at hc
  rcases hc with rfl | rfl | rfl | rfl | rfl | rfl | rfl | rfl | rfl | rfl | rfl <;> rfl
theorem word_ok {x : Addr} {c : Str} {S : Sto} {Q : NQ} {E} {T : TgQ Q E} (h : ExcAt S x c) (hc : c ∈ CL) (k : ∀ S', Keeps S S' → Q (.str (wordOf c)) S') : runF sp__law_word [.ref x] S Q E T := by
  have h3 : (T1 CL).contains (.cls c) = true := by
    simp only [CL, List.mem_cons, List.not_mem_nil, or_false] at hc
    rcases hc with rfl | rfl | rfl | rfl | rfl | rfl | rfl | rfl | rfl | rfl | rfl <;> decide
  have wl := word_list hc
  have i0 := fun (S' : Sto) (h : ExcAt S' x c) (Q : NQ) => isi_excA (x := "BadMaker") Q h h3 (by decide)
  generalize isT (.cls c) (.cls "BadMaker") = b0 at i0 wl
  have i1 := fun (S' : Sto) (h : ExcAt S' x c) (Q : NQ) => isi_excA (x := "BadWare") Q h h3 (by decide)
  generalize isT (.cls c) (.cls "BadWare") = b1 at i1 wl
  have i2 := fun (S' : Sto) (h : ExcAt S' x c) (Q : NQ) => isi_excA (x := "BadCount") Q h h3 (by decide)
  generalize isT (.cls c) (.cls "BadCount") = b2 at i2 wl
  have i3 := fun (S' : Sto) (h : ExcAt S' x c) (Q : NQ) => isi_excA (x := "TooMuch") Q h h3 (by decide)
  generalize isT (.cls c) (.cls "TooMuch") = b3 at i3 wl
  have i4 := fun (S' : Sto) (h : ExcAt S' x c) (Q : NQ) => isi_excA (x := "BadShares") Q h h3 (by decide)
  generalize isT (.cls c) (.cls "BadShares") = b4 at i4 wl
  have i5 := fun (S' : Sto) (h : ExcAt S' x c) (Q : NQ) => isi_excA (x := "NoText") Q h h3 (by decide)
  generalize isT (.cls c) (.cls "NoText") = b5 at i5 wl
  have i6 := fun (S' : Sto) (h : ExcAt S' x c) (Q : NQ) => isi_excA (x := "NoName") Q h h3 (by decide)
  generalize isT (.cls c) (.cls "NoName") = b6 at i6 wl
  have i7 := fun (S' : Sto) (h : ExcAt S' x c) (Q : NQ) => isi_excA (x := "TooLittle") Q h h3 (by decide)
  generalize isT (.cls c) (.cls "TooLittle") = b7 at i7 wl
  have i8 := fun (S' : Sto) (h : ExcAt S' x c) (Q : NQ) => isi_excA (x := "BadRumour") Q h h3 (by decide)
  generalize isT (.cls c) (.cls "BadRumour") = b8 at i8 wl
  have i9 := fun (S' : Sto) (h : ExcAt S' x c) (Q : NQ) => isi_excA (x := "NoParting") Q h h3 (by decide)
  generalize isT (.cls c) (.cls "NoParting") = b9 at i9 wl
  have i10 := fun (S' : Sto) (h : ExcAt S' x c) (Q : NQ) => isi_excA (x := "NoLine") Q h h3 (by decide)
  generalize isT (.cls c) (.cls "NoLine") = b10 at i10 wl
  have ic := fun (S' : Sto) (h : ExcAt S' x c) (Q : NQ) => isi_excVA Q h h3
  simp_arith! [sp__law_word, m__law_word]
  simp_arith [i0 S h, i1 S h]
  intro p0 hp0
  have K1 : Keeps S (put S p0 (.lst [.tup [.str "maker", .bl b0], .tup [.str "ware", .bl b1]])) := Upd.new hp0
  have g1 : put S p0 (.lst [.tup [.str "maker", .bl b0], .tup [.str "ware", .bl b1]]) p0 = some (.lst [.tup [.str "maker", .bl b0], .tup [.str "ware", .bl b1]]) := put_same
  have h1 := ExcAt.keep h K1
  generalize put S p0 (.lst [.tup [.str "maker", .bl b0], .tup [.str "ware", .bl b1]]) = S1 at *
  simp_arith [i2 S1 h1, i3 S1 h1]
  intro q1 hq1
  have Ka1 : Keeps S1 (put S1 q1 (.lst [.tup [.str "count", .bl b2], .tup [.str "much", .bl b3]])) := Upd.new hq1
  have ga1 : put S1 q1 (.lst [.tup [.str "count", .bl b2], .tup [.str "much", .bl b3]]) q1 = some (.lst [.tup [.str "count", .bl b2], .tup [.str "much", .bl b3]]) := put_same
  have gb1 := Ka1 _ _ (by simp) g1
  have ha1 := ExcAt.keep h1 Ka1
  generalize put S1 q1 (.lst [.tup [.str "count", .bl b2], .tup [.str "much", .bl b3]]) = U1 at *
  rw [ga1, gb1]
  refine ⟨by show 2 + 2 ≤ sizeLine; decide, fun p1 hp1 => ?_⟩
  simp only [List.cons_append, List.nil_append]
  have Kb1 : Keeps U1 (put U1 p1 (.lst [.tup [.str "maker", .bl b0], .tup [.str "ware", .bl b1], .tup [.str "count", .bl b2], .tup [.str "much", .bl b3]])) := Upd.new hp1
  have g2 : put U1 p1 (.lst [.tup [.str "maker", .bl b0], .tup [.str "ware", .bl b1], .tup [.str "count", .bl b2], .tup [.str "much", .bl b3]]) p1 = some (.lst [.tup [.str "maker", .bl b0], .tup [.str "ware", .bl b1], .tup [.str "count", .bl b2], .tup [.str "much", .bl b3]]) := put_same
  have h2 := ExcAt.keep ha1 Kb1
  have K2 : Keeps S (put U1 p1 (.lst [.tup [.str "maker", .bl b0], .tup [.str "ware", .bl b1], .tup [.str "count", .bl b2], .tup [.str "much", .bl b3]])) := Upd.trans K1 (Upd.trans Ka1 Kb1)
  generalize put U1 p1 (.lst [.tup [.str "maker", .bl b0], .tup [.str "ware", .bl b1], .tup [.str "count", .bl b2], .tup [.str "much", .bl b3]]) = S2 at *
  try simp_arith [g2, i4 S2 h2, i5 S2 h2]
  intro q2 hq2
  have Ka2 : Keeps S2 (put S2 q2 (.lst [.tup [.str "shares", .bl b4], .tup [.str "text", .bl b5]])) := Upd.new hq2
  have ga2 : put S2 q2 (.lst [.tup [.str "shares", .bl b4], .tup [.str "text", .bl b5]]) q2 = some (.lst [.tup [.str "shares", .bl b4], .tup [.str "text", .bl b5]]) := put_same
  have gb2 := Ka2 _ _ (by simp) g2
  have ha2 := ExcAt.keep h2 Ka2
  generalize put S2 q2 (.lst [.tup [.str "shares", .bl b4], .tup [.str "text", .bl b5]]) = U2 at *
  rw [ga2, gb2]
  refine ⟨by show 4 + 2 ≤ sizeLine; decide, fun p2 hp2 => ?_⟩
  simp only [List.cons_append, List.nil_append]
  have Kb2 : Keeps U2 (put U2 p2 (.lst [.tup [.str "maker", .bl b0], .tup [.str "ware", .bl b1], .tup [.str "count", .bl b2], .tup [.str "much", .bl b3], .tup [.str "shares", .bl b4], .tup [.str "text", .bl b5]])) := Upd.new hp2
  have g3 : put U2 p2 (.lst [.tup [.str "maker", .bl b0], .tup [.str "ware", .bl b1], .tup [.str "count", .bl b2], .tup [.str "much", .bl b3], .tup [.str "shares", .bl b4], .tup [.str "text", .bl b5]]) p2 = some (.lst [.tup [.str "maker", .bl b0], .tup [.str "ware", .bl b1], .tup [.str "count", .bl b2], .tup [.str "much", .bl b3], .tup [.str "shares", .bl b4], .tup [.str "text", .bl b5]]) := put_same
  have h3 := ExcAt.keep ha2 Kb2
  have K3 : Keeps S (put U2 p2 (.lst [.tup [.str "maker", .bl b0], .tup [.str "ware", .bl b1], .tup [.str "count", .bl b2], .tup [.str "much", .bl b3], .tup [.str "shares", .bl b4], .tup [.str "text", .bl b5]])) := Upd.trans K2 (Upd.trans Ka2 Kb2)
  generalize put U2 p2 (.lst [.tup [.str "maker", .bl b0], .tup [.str "ware", .bl b1], .tup [.str "count", .bl b2], .tup [.str "much", .bl b3], .tup [.str "shares", .bl b4], .tup [.str "text", .bl b5]]) = S3 at *
  try simp_arith [g3, i6 S3 h3, i7 S3 h3]
  intro q3 hq3
  have Ka3 : Keeps S3 (put S3 q3 (.lst [.tup [.str "name", .bl b6], .tup [.str "little", .bl b7]])) := Upd.new hq3
  have ga3 : put S3 q3 (.lst [.tup [.str "name", .bl b6], .tup [.str "little", .bl b7]]) q3 = some (.lst [.tup [.str "name", .bl b6], .tup [.str "little", .bl b7]]) := put_same
  have gb3 := Ka3 _ _ (by simp) g3
  have ha3 := ExcAt.keep h3 Ka3
  generalize put S3 q3 (.lst [.tup [.str "name", .bl b6], .tup [.str "little", .bl b7]]) = U3 at *
  rw [ga3, gb3]
  refine ⟨by show 6 + 2 ≤ sizeLine; decide, fun p3 hp3 => ?_⟩
  simp only [List.cons_append, List.nil_append]
  have Kb3 : Keeps U3 (put U3 p3 (.lst [.tup [.str "maker", .bl b0], .tup [.str "ware", .bl b1], .tup [.str "count", .bl b2], .tup [.str "much", .bl b3], .tup [.str "shares", .bl b4], .tup [.str "text", .bl b5], .tup [.str "name", .bl b6], .tup [.str "little", .bl b7]])) := Upd.new hp3
  have g4 : put U3 p3 (.lst [.tup [.str "maker", .bl b0], .tup [.str "ware", .bl b1], .tup [.str "count", .bl b2], .tup [.str "much", .bl b3], .tup [.str "shares", .bl b4], .tup [.str "text", .bl b5], .tup [.str "name", .bl b6], .tup [.str "little", .bl b7]]) p3 = some (.lst [.tup [.str "maker", .bl b0], .tup [.str "ware", .bl b1], .tup [.str "count", .bl b2], .tup [.str "much", .bl b3], .tup [.str "shares", .bl b4], .tup [.str "text", .bl b5], .tup [.str "name", .bl b6], .tup [.str "little", .bl b7]]) := put_same
  have h4 := ExcAt.keep ha3 Kb3
  have K4 : Keeps S (put U3 p3 (.lst [.tup [.str "maker", .bl b0], .tup [.str "ware", .bl b1], .tup [.str "count", .bl b2], .tup [.str "much", .bl b3], .tup [.str "shares", .bl b4], .tup [.str "text", .bl b5], .tup [.str "name", .bl b6], .tup [.str "little", .bl b7]])) := Upd.trans K3 (Upd.trans Ka3 Kb3)
  generalize put U3 p3 (.lst [.tup [.str "maker", .bl b0], .tup [.str "ware", .bl b1], .tup [.str "count", .bl b2], .tup [.str "much", .bl b3], .tup [.str "shares", .bl b4], .tup [.str "text", .bl b5], .tup [.str "name", .bl b6], .tup [.str "little", .bl b7]]) = S4 at *
  try simp_arith [g4, i8 S4 h4, i9 S4 h4]
  intro q4 hq4
  have Ka4 : Keeps S4 (put S4 q4 (.lst [.tup [.str "rumour", .bl b8], .tup [.str "parting", .bl b9]])) := Upd.new hq4
  have ga4 : put S4 q4 (.lst [.tup [.str "rumour", .bl b8], .tup [.str "parting", .bl b9]]) q4 = some (.lst [.tup [.str "rumour", .bl b8], .tup [.str "parting", .bl b9]]) := put_same
  have gb4 := Ka4 _ _ (by simp) g4
  have ha4 := ExcAt.keep h4 Ka4
  generalize put S4 q4 (.lst [.tup [.str "rumour", .bl b8], .tup [.str "parting", .bl b9]]) = U4 at *
  rw [ga4, gb4]
  refine ⟨by show 8 + 2 ≤ sizeLine; decide, fun p4 hp4 => ?_⟩
  simp only [List.cons_append, List.nil_append]
  have Kb4 : Keeps U4 (put U4 p4 (.lst [.tup [.str "maker", .bl b0], .tup [.str "ware", .bl b1], .tup [.str "count", .bl b2], .tup [.str "much", .bl b3], .tup [.str "shares", .bl b4], .tup [.str "text", .bl b5], .tup [.str "name", .bl b6], .tup [.str "little", .bl b7], .tup [.str "rumour", .bl b8], .tup [.str "parting", .bl b9]])) := Upd.new hp4
  have g5 : put U4 p4 (.lst [.tup [.str "maker", .bl b0], .tup [.str "ware", .bl b1], .tup [.str "count", .bl b2], .tup [.str "much", .bl b3], .tup [.str "shares", .bl b4], .tup [.str "text", .bl b5], .tup [.str "name", .bl b6], .tup [.str "little", .bl b7], .tup [.str "rumour", .bl b8], .tup [.str "parting", .bl b9]]) p4 = some (.lst [.tup [.str "maker", .bl b0], .tup [.str "ware", .bl b1], .tup [.str "count", .bl b2], .tup [.str "much", .bl b3], .tup [.str "shares", .bl b4], .tup [.str "text", .bl b5], .tup [.str "name", .bl b6], .tup [.str "little", .bl b7], .tup [.str "rumour", .bl b8], .tup [.str "parting", .bl b9]]) := put_same
  have h5 := ExcAt.keep ha4 Kb4
  have K5 : Keeps S (put U4 p4 (.lst [.tup [.str "maker", .bl b0], .tup [.str "ware", .bl b1], .tup [.str "count", .bl b2], .tup [.str "much", .bl b3], .tup [.str "shares", .bl b4], .tup [.str "text", .bl b5], .tup [.str "name", .bl b6], .tup [.str "little", .bl b7], .tup [.str "rumour", .bl b8], .tup [.str "parting", .bl b9]])) := Upd.trans K4 (Upd.trans Ka4 Kb4)
  generalize put U4 p4 (.lst [.tup [.str "maker", .bl b0], .tup [.str "ware", .bl b1], .tup [.str "count", .bl b2], .tup [.str "much", .bl b3], .tup [.str "shares", .bl b4], .tup [.str "text", .bl b5], .tup [.str "name", .bl b6], .tup [.str "little", .bl b7], .tup [.str "rumour", .bl b8], .tup [.str "parting", .bl b9]]) = S5 at *
  try simp_arith [g5, i10 S5 h5, ic S5 h5]
  intro q5 hq5
  have Ka5 : Keeps S5 (put S5 q5 (.lst [.tup [.str "line", .bl b10], .tup [.str "other", .bl (!true)]])) := Upd.new hq5
  have ga5 : put S5 q5 (.lst [.tup [.str "line", .bl b10], .tup [.str "other", .bl (!true)]]) q5 = some (.lst [.tup [.str "line", .bl b10], .tup [.str "other", .bl (!true)]]) := put_same
  have gb5 := Ka5 _ _ (by simp) g5
  have ha5 := ExcAt.keep h5 Ka5
  generalize put S5 q5 (.lst [.tup [.str "line", .bl b10], .tup [.str "other", .bl (!true)]]) = U5 at *
  rw [ga5, gb5]
  refine ⟨by show 10 + 2 ≤ sizeLine; decide, fun p5 hp5 => ?_⟩
  simp only [List.cons_append, List.nil_append]
  have Kb5 : Keeps U5 (put U5 p5 (.lst [.tup [.str "maker", .bl b0], .tup [.str "ware", .bl b1], .tup [.str "count", .bl b2], .tup [.str "much", .bl b3], .tup [.str "shares", .bl b4], .tup [.str "text", .bl b5], .tup [.str "name", .bl b6], .tup [.str "little", .bl b7], .tup [.str "rumour", .bl b8], .tup [.str "parting", .bl b9], .tup [.str "line", .bl b10], .tup [.str "other", .bl (!true)]])) := Upd.new hp5
  have g6 : put U5 p5 (.lst [.tup [.str "maker", .bl b0], .tup [.str "ware", .bl b1], .tup [.str "count", .bl b2], .tup [.str "much", .bl b3], .tup [.str "shares", .bl b4], .tup [.str "text", .bl b5], .tup [.str "name", .bl b6], .tup [.str "little", .bl b7], .tup [.str "rumour", .bl b8], .tup [.str "parting", .bl b9], .tup [.str "line", .bl b10], .tup [.str "other", .bl (!true)]]) p5 = some (.lst [.tup [.str "maker", .bl b0], .tup [.str "ware", .bl b1], .tup [.str "count", .bl b2], .tup [.str "much", .bl b3], .tup [.str "shares", .bl b4], .tup [.str "text", .bl b5], .tup [.str "name", .bl b6], .tup [.str "little", .bl b7], .tup [.str "rumour", .bl b8], .tup [.str "parting", .bl b9], .tup [.str "line", .bl b10], .tup [.str "other", .bl (!true)]]) := put_same
  have h6 := ExcAt.keep ha5 Kb5
  have K6 : Keeps S (put U5 p5 (.lst [.tup [.str "maker", .bl b0], .tup [.str "ware", .bl b1], .tup [.str "count", .bl b2], .tup [.str "much", .bl b3], .tup [.str "shares", .bl b4], .tup [.str "text", .bl b5], .tup [.str "name", .bl b6], .tup [.str "little", .bl b7], .tup [.str "rumour", .bl b8], .tup [.str "parting", .bl b9], .tup [.str "line", .bl b10], .tup [.str "other", .bl (!true)]])) := Upd.trans K5 (Upd.trans Ka5 Kb5)
  generalize put U5 p5 (.lst [.tup [.str "maker", .bl b0], .tup [.str "ware", .bl b1], .tup [.str "count", .bl b2], .tup [.str "much", .bl b3], .tup [.str "shares", .bl b4], .tup [.str "text", .bl b5], .tup [.str "name", .bl b6], .tup [.str "little", .bl b7], .tup [.str "rumour", .bl b8], .tup [.str "parting", .bl b9], .tup [.str "line", .bl b10], .tup [.str "other", .bl (!true)]]) = S6 at *
  try simp_arith [g6]
  intro r hr
  have rp : r ≠ p5 := fun z => by rw [z, g6] at hr; cases hr
  refine ⟨by rw [put_ne (Ne.symm rp)]; exact g6, ?_⟩
  refine runC_pure wordF (fun l => by rw [put_ne (Ne.symm rp)]; exact g6) (by show 12 ≤ sizeLine; decide) ?_ ?_
  · intro y hy l Y N hY
    obtain ⟨w, b, rfl⟩ : ∃ w b, y = .tup [.str w, .bl b] := by
      simp only [List.mem_cons, List.not_mem_nil, or_false] at hy
      rcases hy with rfl | rfl | rfl | rfl | rfl | rfl | rfl | rfl | rfl | rfl | rfl | rfl <;> exact ⟨_, _, rfl⟩
    cases b with
    | true =>
      simp_arith []
      exact hY
    | false =>
      simp_arith []
      exact hY
  rw [wl]
  have one : decide (((1 : Nat) : Int) = 1) = true := by decide
  have at0 : atI ([.str (wordOf c)] : List D) 0 = some (.str (wordOf c)) := rfl
  simp_arith [put_same, one, at0]
  exact k _ (Upd.trans K6 (Upd.new hr))

/-! ### what a market tells is the law's own -/
theorem strOk_let {z : Str} (h : NameOk z) : PyData.strOk z = true := by
  unfold PyData.strOk
  rw [Array.all_eq_true_iff_forall_mem]
  intro c hc
  have q := List.all_eq_true.mp h.all c (Array.mem_toList_iff.mpr hc)
  have q := of_decide_eq_true q
  rw [letters] at q
  obtain ⟨i, hi, rfl⟩ := List.mem_map.mp q
  have := List.mem_range.mp hi
  exact decide_eq_true (by omega)
theorem pyDs_strs : ∀ l : List Str, pyDs (l.map D.str) = some (l.map PyData.str)
  | [] => rfl
  | x :: r => by simp only [List.map_cons, pyDs, pyD, pyDs_strs r]
theorem can_strs : ∀ {l : List Str}, (∀ z ∈ l, PyData.strOk z = true) → PyData.canLayAll0 (l.map PyData.str) = true
  | [], _ => rfl
  | x :: r, h => by
    have ih := can_strs (l := r) fun z hz => h z (by simp [hz])
    simp only [List.map_cons, PyData.canLayAll0, PyData.canLay0, h x (by simp), ih, Bool.and_self]
theorem dep_strs : ∀ l : List Str, PyData.depthAll (l.map PyData.str) ≤ 1
  | [] => by decide
  | x :: r => by
    have := dep_strs r
    simp only [List.map_cons, PyData.depthAll, PyData.depth]; omega
theorem eqU_two {S : Sto} {a b p1 p2 q1 q2 : Addr} {xs ys : List Str} (hx : ∀ z ∈ xs, PyData.strOk z = true) (hy : ∀ z ∈ ys, PyData.strOk z = true) (ha : S a = some (.lst [.ref p1, .ref p2])) (hb : S b = some (.lst [.ref q1, .ref q2])) (h1 : S p1 = some (.lst (xs.map D.str))) (h2 : S p2 = some (.lst (ys.map D.str))) (h3 : S q1 = some (.lst (xs.map D.str))) (h4 : S q2 = some (.lst (ys.map D.str))) : N.eqU S (.ref a) (.ref b) = some true := by
  have c1 := can_strs hx
  have c2 := can_strs hy
  have c : PyData.canLay0 (.list [.list (xs.map PyData.str), .list (ys.map PyData.str)]) = true := by
    simp only [PyData.canLay0, PyData.canLayAll0, c1, c2, Bool.and_self]
  have d1 := dep_strs xs
  have d2 := dep_strs ys
  have h3' : SeqAt.shaped (.list [.list (xs.map PyData.str), .list (ys.map PyData.str)]) = true := by
    unfold SeqAt.shaped
    rw [c]
    simp only [PyData.depth, PyData.depthAll, Bool.true_and]
    exact decide_eq_true (by omega)
  unfold N.eqU
  simp only [pyU, ha, hb, pyTs, pyT, h1, h2, h3, h4, pyDs_strs, Option.map_some, h3', SeqAt.eqv_refl _ c, Bool.and_self, if_true]
theorem upd_fresh2 {S S' : Sto} {A : List Addr} (u : Upd A S S') (h : ∀ p ∈ A, S p = Option.none) : Keeps S S' := upd_drop (A := []) u fun p hp _ => h p hp
/-- the market and the law's own lie apart -/
structure Apart (ps pk wm wh : Addr) : Prop where
  a : ps ≠ wm
  b : ps ≠ wh
  c : pk ≠ wm
  d : pk ≠ wh
theorem mfl_no {f : String} {ps pk : Addr} (h : f ≠ "stalls" ∧ f ≠ "pockets") : List.lookup (f : Str) ([("stalls", .ref ps), ("pockets", .ref pk)] : List (Str × D)) = Option.none := by
  have h1 : ((f : Str) == ("stalls" : Str)) = false := by rw [ofString_beq]; exact beq_eq_false_iff_ne.mpr h.1
  have h2 : ((f : Str) == ("pockets" : Str)) = false := by rw [ofString_beq]; exact beq_eq_false_iff_ne.mpr h.2
  simp only [List.lookup, h1, h2]
theorem mtm_text : mt_Market_text "Market" = some (1, sp_Market_text) := by simp [mt_Market_text]
theorem MarketAt.lock {g ps pk x : Addr} {rs : List Mkr} {hs : List Hnd} {S : Sto} {kvs : List (Key × D)} (G : MarketAt g ps pk rs hs S) (hx : S x = some (.dic kvs)) (n1 : ps ≠ x) (n2 : pk ≠ x) (o : Ob) : MarketAt g ps pk rs hs (put S x o) := by
  have f : ∀ {y : Addr} {b : Ob}, S y = some b → (∀ l, b ≠ .dic l) → y ∉ [x] := fun e n => by
    simp only [List.mem_cons, List.not_mem_nil, or_false]
    intro z
    rw [z, hx] at e
    cases e
    exact n _ rfl
  exact G.up (Upd.at (A := [x]) (by simp)) (f G.ins (by simp)) (by simpa using n1) (by simpa using n2) fun r hr => ⟨f (G.mks r hr).ins (by simp), f (G.mks r hr).lst (by simp)⟩

/-! ### a hand deals with a maker -/
def Hnd.pl (h : Hnd) (i : Int) : Int := if i = 0 then h.a else h.b
/-- a hand behind a deal -/
def Hnd.deal (h : Hnd) (i n v : Int) : Hnd := if i = 0 then { h with a := h.a - n, b := h.b + v } else { h with b := h.b - n, a := h.a + v }
def setM (ms : List Mkr) (nm : Str) (m' : Mk) : List Mkr := ms.map fun r => if r.nm = nm then { r with m := m' } else r
def setH (hs : List Hnd) (h' : Hnd) : List Hnd := hs.map fun h => if h.nm = h'.nm then h' else h
/-- the class of the refusal that is due; nothing where the deal can be -/
def refusal (h : Hnd) (m : Mk) (i n l : Int) : Option Str :=
  if h.pl i < n then some "TooLittle" else if 1000000000000 < m.stk i + n ∨ 1000000000000 < h.pl (1 - i) + m.comes i n then some "TooMuch" else if m.comes i n < l then some "TooLittle" else Option.none
theorem setM_nm {ms : List Mkr} {nm : Str} {m' : Mk} : (setM ms nm m').map (·.nm) = ms.map (·.nm) := by
  unfold setM
  rw [List.map_map]
  apply List.map_congr_left
  intro r _
  show (if r.nm = nm then ({ r with m := m' } : Mkr) else r).nm = r.nm
  split <;> rfl
theorem setM_q {ms : List Mkr} {nm : Str} {m' : Mk} : (setM ms nm m').map (·.q) = ms.map (·.q) := by
  unfold setM
  rw [List.map_map]
  apply List.map_congr_left
  intro r _
  show (if r.nm = nm then ({ r with m := m' } : Mkr) else r).q = r.q
  split <;> rfl
theorem setM_st {ms : List Mkr} {nm : Str} {m' : Mk} : stD (setM ms nm m') = stD ms := by
  unfold stD setM
  rw [List.map_map]
  apply List.map_congr_left
  intro r _
  show ((.inr (if r.nm = nm then ({ r with m := m' } : Mkr) else r).nm : Key), D.ref (if r.nm = nm then ({ r with m := m' } : Mkr) else r).p) = _
  split <;> rfl
theorem setH_nm {hs : List Hnd} {h' : Hnd} : (setH hs h').map (·.nm) = hs.map (·.nm) := by
  unfold setH
  rw [List.map_map]
  apply List.map_congr_left
  intro r _
  show (if r.nm = h'.nm then h' else r).nm = r.nm
  split
  · rename_i e; exact e.symm
  · rfl
theorem setH_po {hs : List Hnd} {h' : Hnd} (hh : h'.nm ∈ hs.map (·.nm)) : dput (poD hs) (.inr h'.nm) (.tup [.int h'.a, .int h'.b]) = poD (setH hs h') := by
  unfold dput
  obtain ⟨h, hm, e⟩ := List.mem_map.mp hh
  rw [if_pos]
  · unfold poD setH
    rw [List.map_map, List.map_map]
    apply List.map_congr_left
    intro r _
    show (if ((.inr r.nm : Key), D.tup [.int r.a, .int r.b]).1 = .inr h'.nm then _ else _) = ((.inr (if r.nm = h'.nm then h' else r).nm : Key), D.tup [.int (if r.nm = h'.nm then h' else r).a, .int (if r.nm = h'.nm then h' else r).b])
    by_cases z : r.nm = h'.nm
    · rw [if_pos z, if_pos (by rw [z])]
      show ((.inr r.nm : Key), D.tup [.int h'.a, .int h'.b]) = _
      rw [z]
    · rw [if_neg z, if_neg (fun w => z (Sum.inr.inj w))]
  · rw [List.any_eq_true]
    exact ⟨_, List.mem_map.mpr ⟨h, hm, rfl⟩, decide_eq_true (by rw [← e])⟩
theorem deal_nm {h : Hnd} {i n v : Int} : (h.deal i n v).nm = h.nm := by unfold Hnd.deal; split <;> rfl
theorem nd_inj {ms : List Mkr} {x y : Mkr} (nd : (ms.map (·.nm)).Nodup) (hx : x ∈ ms) (hy : y ∈ ms) (e : x.nm = y.nm) : x = y := by
  induction ms with
  | nil => cases hx
  | cons z r ih =>
    rw [List.map_cons, List.nodup_cons] at nd
    rcases List.mem_cons.mp hx with hx | hx
    · rcases List.mem_cons.mp hy with hy | hy
      · rw [hx, hy]
      · rw [hx] at e
        exact absurd (List.mem_map.mpr ⟨y, hy, e.symm⟩) nd.1
    · rcases List.mem_cons.mp hy with hy | hy
      · rw [hy] at e
        exact absurd (List.mem_map.mpr ⟨x, hx, e⟩) nd.1
      · exact ih nd.2 hx hy
theorem nd_injq {ms : List Mkr} {x y : Mkr} (nd : (ms.map (·.q)).Nodup) (hx : x ∈ ms) (hy : y ∈ ms) (e : x.q = y.q) : x = y := by
  induction ms with
  | nil => cases hx
  | cons z r ih =>
    rw [List.map_cons, List.nodup_cons] at nd
    rcases List.mem_cons.mp hx with hx | hx
    · rcases List.mem_cons.mp hy with hy | hy
      · rw [hx, hy]
      · rw [hx] at e
        exact absurd (List.mem_map.mpr ⟨y, hy, e.symm⟩) nd.1
    · rcases List.mem_cons.mp hy with hy | hy
      · rw [hy] at e
        exact absurd (List.mem_map.mpr ⟨x, hx, e⟩) nd.1
      · exact ih nd.2 hx hy
theorem ware_ix {i : Int} (h : Sd i) : List.findIdx? (fun x => decide (x = wr i)) c_WARES = some i.toNat := by
  rcases h with rfl | rfl <;> decide
theorem refusal_cl {h : Hnd} {m : Mk} {i n l : Int} {c : Str} (e : refusal h m i n l = some c) : c ∈ CL ∧ catchOf CL c "MartError" = some true := by
  unfold refusal at e
  split at e
  · cases e; exact ⟨by decide, by decide⟩
  · split at e
    · cases e; exact ⟨by decide, by decide⟩
    · split at e
      · cases e; exact ⟨by decide, by decide⟩
      · cases e
/-! ### all grains -/
def setT (ms : List (Str × Mk)) (nm : Str) (m' : Mk) : List (Str × Mk) := ms.map fun y => if y.1 = nm then (y.1, m') else y
theorem setM_two {rs : List Mkr} {nm : Str} {m' : Mk} : (setM rs nm m').map Mkr.two = setT (rs.map Mkr.two) nm m' := by
  unfold setM setT
  rw [List.map_map, List.map_map]
  apply List.map_congr_left
  intro r _
  show (if r.nm = nm then ({ r with m := m' } : Mkr) else r).two = if r.two.1 = nm then (r.two.1, m') else r.two
  unfold Mkr.two
  by_cases e : r.nm = nm
  · rw [if_pos e, if_pos e]
  · rw [if_neg e, if_neg e]
theorem sum_set {α : Type} (f : α → Int) (key : α → Str) (x x' : α) : ∀ {l : List α}, (l.map key).Nodup → x ∈ l → ((l.map fun y => if key y = key x then x' else y).map f).sum = (l.map f).sum - f x + f x' := by
  intro l
  induction l with
  | nil => intro _ h; cases h
  | cons y r ih =>
    intro nd h
    rw [List.map_cons, List.nodup_cons] at nd
    simp only [List.map_cons, List.sum_cons]
    rcases List.mem_cons.mp h with e | e
    · subst e
      rw [if_pos rfl]
      have same : (r.map fun y => if key y = key x then x' else y) = r := by
        have : ∀ y ∈ r, (if key y = key x then x' else y) = y := fun y hy => if_neg fun z => nd.1 (List.mem_map.mpr ⟨y, hy, z⟩)
        rw [List.map_congr_left this, List.map_id']
      rw [same]
      omega
    · have ne : key y ≠ key x := fun z => nd.1 (List.mem_map.mpr ⟨x, e, z.symm⟩)
      rw [if_neg ne, ih nd.2 e]
      omega
def saltsT (ms : List (Str × Mk)) (hs : List Hnd) : List Int := ms.map (·.2.s) ++ hs.map (·.a)
def clothsT (ms : List (Str × Mk)) (hs : List Hnd) : List Int := ms.map (·.2.c) ++ hs.map (·.b)
theorem salts_T {rs : List Mkr} {hs : List Hnd} : salts rs hs = saltsT (rs.map Mkr.two) hs := by
  unfold salts saltsT
  rw [List.map_map]; rfl
theorem cloths_T {rs : List Mkr} {hs : List Hnd} : cloths rs hs = clothsT (rs.map Mkr.two) hs := by
  unfold cloths clothsT
  rw [List.map_map]; rfl
/-- what holds of a market's rows -/
structure Inv13 (ms : List (Str × Mk)) (hs : List Hnd) (W V : Int) : Prop where
  x : MTxt ms hs
  h0 : hs ≠ []
  w : (saltsT ms hs).sum = W
  v : (clothsT ms hs).sum = V
theorem sum_app (a b : List Int) : (a ++ b).sum = a.sum + b.sum := by simp
theorem setT_as {ms : List (Str × Mk)} {x : Str × Mk} {m' : Mk} : setT ms x.1 m' = ms.map fun y => if y.1 = x.1 then (x.1, m') else y := by
  unfold setT
  apply List.map_congr_left
  intro y _
  by_cases e : y.1 = x.1
  · rw [if_pos e, if_pos e, e]
  · rw [if_neg e, if_neg e]
theorem setT_fst {ms : List (Str × Mk)} {nm : Str} {m' : Mk} : (setT ms nm m').map (·.1) = ms.map (·.1) := by
  unfold setT
  rw [List.map_map]
  apply List.map_congr_left
  intro y _
  show (if y.1 = nm then (y.1, m') else y).1 = y.1
  split <;> rfl
theorem setT_mem {ms : List (Str × Mk)} {nm : Str} {m' : Mk} {y : Str × Mk} (h : y ∈ setT ms nm m') : (∃ z ∈ ms, z.1 = y.1) ∧ (y.2 = m' ∨ y ∈ ms) := by
  unfold setT at h
  obtain ⟨z, hz, e⟩ := List.mem_map.mp h
  by_cases n : z.1 = nm
  · rw [if_pos n] at e
    subst e
    exact ⟨⟨z, hz, rfl⟩, .inl rfl⟩
  · rw [if_neg n] at e
    subst e
    exact ⟨⟨z, hz, rfl⟩, .inr hz⟩
theorem setH_mem {hs : List Hnd} {h' y : Hnd} (h : y ∈ setH hs h') : (∃ z ∈ hs, z.nm = y.nm) ∧ (y = h' ∨ y ∈ hs) := by
  unfold setH at h
  obtain ⟨z, hz, e⟩ := List.mem_map.mp h
  by_cases n : z.nm = h'.nm
  · rw [if_pos n] at e
    subst e
    exact ⟨⟨z, hz, n⟩, .inl rfl⟩
  · rw [if_neg n] at e
    subst e
    exact ⟨⟨z, hz, rfl⟩, .inr hz⟩
theorem refusal_none {h : Hnd} {m : Mk} {i n l : Int} (mo : m.Ok) (sd : Sd i) (n1 : 1 ≤ n) (rf : refusal h m i n l = Option.none) : n ≤ h.pl i ∧ Asks m i n ∧ h.pl (1 - i) + m.comes i n ≤ 1000000000000 ∧ l ≤ m.comes i n := by
  have st0 : 0 ≤ m.stk i := by
    unfold Mk.stk
    split
    · exact mo.s0
    · exact mo.c0
  unfold refusal at rf
  have c1 : ¬ h.pl i < n := fun z => by rw [if_pos z] at rf; cases rf
  rw [if_neg c1] at rf
  have c2 : ¬ (1000000000000 < m.stk i + n ∨ 1000000000000 < h.pl (1 - i) + m.comes i n) := fun z => by rw [if_pos z] at rf; cases rf
  rw [if_neg c2] at rf
  have c4 : ¬ m.comes i n < l := fun z => by rw [if_pos z] at rf; cases rf
  exact ⟨by omega, ⟨⟨mo, sd, n1, by omega⟩, by omega⟩, by omega, by omega⟩
theorem Hnd.deal_ok {h : Hnd} {m : Mk} {i n l : Int} (o : h.Ok) (mo : m.Ok) (sd : Sd i) (n1 : 1 ≤ n) (rf : refusal h m i n l = Option.none) : (h.deal i n (m.comes i n)).Ok := by
  obtain ⟨r1, as, r2, r3⟩ := refusal_none mo sd n1 rf
  have cm := as.comes
  obtain ⟨a0, a1, b0, b1⟩ := o
  unfold Hnd.pl at r1 r2
  rcases sd with rfl | rfl
  · simp only [if_true] at r1
    rw [if_neg (by decide)] at r2
    refine ⟨?_, ?_, ?_, ?_⟩ <;> simp only [Hnd.deal, if_true] <;> omega
  · rw [if_neg (by decide)] at r1
    rw [if_pos (by decide)] at r2
    refine ⟨?_, ?_, ?_, ?_⟩ <;> simp only [Hnd.deal, if_neg (show ¬ (1 : Int) = 0 by decide)] <;> omega
theorem Inv13.step {ms : List (Str × Mk)} {hs : List Hnd} {W V : Int} (I : Inv13 ms hs W V) {x : Str × Mk} {h : Hnd} {i n l : Int} (hx : x ∈ ms) (hh : h ∈ hs) (sd : Sd i) (n1 : 1 ≤ n) (rf : refusal h x.2 i n l = Option.none) : Inv13 (setT ms x.1 (x.2.deal i n)) (setH hs (h.deal i n (x.2.comes i n))) W V := by
  have mo := (I.x.mo x hx).1
  obtain ⟨r1, as, r2, r3⟩ := refusal_none mo sd n1 rf
  have nd := I.x.nd
  rw [List.nodup_append] at nd
  have nm : (h.deal i n (x.2.comes i n)).nm = h.nm := deal_nm
  have sh : setH hs (h.deal i n (x.2.comes i n)) = hs.map fun y => if y.nm = h.nm then h.deal i n (x.2.comes i n) else y := by unfold setH; rw [nm]
  have key : ∀ (f : Str × Mk → Int) (g : Hnd → Int), ((setT ms x.1 (x.2.deal i n)).map f ++ (setH hs (h.deal i n (x.2.comes i n))).map g).sum = (ms.map f ++ hs.map g).sum - f x + f (x.1, x.2.deal i n) - g h + g (h.deal i n (x.2.comes i n)) := by
    intro f g
    rw [sum_app, sum_app, sh, setT_as]
    have e1 := sum_set f (fun y : Str × Mk => y.1) x (x.1, x.2.deal i n) nd.1 hx
    have e2 := sum_set g (fun y : Hnd => y.nm) h (h.deal i n (x.2.comes i n)) nd.2.1 hh
    rw [e1, e2]
    omega
  refine ⟨⟨?_, ?_, ?_, fun y hy => ?_, fun y hy => ?_, ?_⟩, ?_, ?_, ?_⟩
  · intro z
    unfold setT at z
    exact I.x.m0 (List.map_eq_nil_iff.mp z)
  · unfold setT; rw [List.length_map]; exact I.x.m6
  · unfold setH; rw [List.length_map]; exact I.x.h6
  · obtain ⟨⟨z, hz, e⟩, q⟩ := setT_mem hy
    refine ⟨?_, by rw [← e]; exact (I.x.mo z hz).2⟩
    rcases q with q | q
    · rw [q]; exact as.ok'
    · exact (I.x.mo y q).1
  · obtain ⟨⟨z, hz, e⟩, q⟩ := setH_mem hy
    refine ⟨?_, by rw [← e]; exact (I.x.ho z hz).2⟩
    rcases q with q | q
    · rw [q]; exact Hnd.deal_ok (I.x.ho h hh).1 mo sd n1 rf
    · exact (I.x.ho y q).1
  · rw [setT_fst, setH_nm]; exact I.x.nd
  · intro z
    unfold setH at z
    exact I.h0 (List.map_eq_nil_iff.mp z)
  · have := key (·.2.s) (·.a)
    unfold saltsT
    rw [this]
    have w := I.w
    unfold saltsT at w
    rw [w]
    rcases sd with rfl | rfl
    · simp only [Mk.deal, Hnd.deal, if_true]; omega
    · simp only [Mk.deal, Hnd.deal, if_neg (show ¬ (1 : Int) = 0 by decide)]; omega
  · have := key (·.2.c) (·.b)
    unfold clothsT
    rw [this]
    have w := I.v
    unfold clothsT at w
    rw [w]
    rcases sd with rfl | rfl
    · simp only [Mk.deal, Hnd.deal, if_true]; omega
    · simp only [Mk.deal, Hnd.deal, if_neg (show ¬ (1 : Int) = 0 by decide)]; omega
theorem MTxt.set {ms : List (Str × Mk)} {hs : List Hnd} {x : Str × Mk} {m' : Mk} (X : MTxt ms hs) (o : m'.Ok) : MTxt (setT ms x.1 m') hs := by
  refine ⟨?_, ?_, X.h6, fun y hy => ?_, X.ho, ?_⟩
  · intro z
    unfold setT at z
    exact X.m0 (List.map_eq_nil_iff.mp z)
  · unfold setT; rw [List.length_map]; exact X.m6
  · obtain ⟨⟨z, hz, e⟩, q⟩ := setT_mem hy
    refine ⟨?_, by rw [← e]; exact (X.mo z hz).2⟩
    rcases q with q | q
    · rw [q]; exact o
    · exact (X.mo y q).1
  · rw [setT_fst]; exact X.nd
theorem MTxt.setH {ms : List (Str × Mk)} {hs : List Hnd} {h' : Hnd} (X : MTxt ms hs) (o : h'.Ok) : MTxt ms (setH hs h') := by
  refine ⟨X.m0, X.m6, ?_, X.mo, fun y hy => ?_, ?_⟩
  · show (hs.map _).length ≤ 6; rw [List.length_map]; exact X.h6
  · obtain ⟨⟨z, hz, e⟩, q⟩ := setH_mem hy
    refine ⟨?_, by rw [← e]; exact (X.ho z hz).2⟩
    rcases q with q | q
    · rw [q]; exact o
    · exact (X.ho y q).1
  · rw [setH_nm]; exact X.nd
/-- a maker of the market has dealt by itself -/
theorem MarketAt.dealt {g ps pk : Addr} {ms : List Mkr} {hs : List Hnd} {r : Mkr} {m' : Mk} {S S1 : Sto} (G : MarketAt g ps pk ms hs S) (ndm : (ms.map (·.nm)).Nodup) (hr : r ∈ ms) (M1 : MkAt r.p r.q m' S1) (u1 : Upd [r.q] S S1) : MarketAt g ps pk (setM ms r.nm m') hs S1 := by
  have fr := G.free hr
  have M := G.mks r hr
  refine ⟨u1 _ _ (by simpa using Ne.symm fr.2.2.2.2.2.2.2) G.ins, ?_, u1 _ _ (by simpa using Ne.symm fr.2.2.2.1) G.poc, fun y hy => ?_, G.ne, by rw [setM_q]; exact G.qn⟩
  · rw [setM_st]
    exact u1 _ _ (by simpa using Ne.symm fr.2.1) G.sta
  · unfold setM at hy
    obtain ⟨x, hx, rfl⟩ := List.mem_map.mp hy
    by_cases xn : x.nm = r.nm
    · have xr : x = r := nd_inj ndm hx hr xn
      rw [if_pos xn, xr]
      exact M1
    · rw [if_neg xn]
      have qx : x.q ≠ r.q := fun z => xn (by rw [nd_injq G.qn hx hr z])
      have px : x.p ≠ r.q := fun z => by
        have e1 := (G.mks x hx).ins
        rw [z, M.lst] at e1
        cases e1
      exact (G.mks x hx).up u1 (by simpa using px) (by simpa using qx)
theorem maD_put {ms : List (Str × Mk)} {x : Str × Mk} {m' : Mk} (h : x ∈ ms) : dput (maD ms) (.inr x.1) m'.d = maD (setT ms x.1 m') := by
  unfold dput
  rw [if_pos]
  · unfold maD setT
    rw [List.map_map, List.map_map]
    apply List.map_congr_left
    intro y _
    show (if ((.inr y.1 : Key), y.2.d).1 = .inr x.1 then _ else _) = ((.inr (if y.1 = x.1 then (y.1, m') else y).1 : Key), (if y.1 = x.1 then (y.1, m') else y).2.d)
    by_cases z : y.1 = x.1
    · rw [if_pos z, if_pos (by rw [z])]
    · rw [if_neg z, if_neg (fun w => z (Sum.inr.inj w))]
  · rw [List.any_eq_true]
    unfold maD
    exact ⟨_, List.mem_map.mpr ⟨x, h, rfl⟩, decide_eq_true rfl⟩

/-! ### what is kept, word by word -/
theorem keepNew {S S1 : Sto} {p : Addr} {o : Ob} (hp : S p = Option.none) (hS : put S p o = S1) : Keeps S S1 := hS ▸ Upd.new hp
theorem gotNew {S S1 : Sto} {p : Addr} {o : Ob} (hS : put S p o = S1) : S1 p = some o := hS ▸ put_same
/-- what stays where nothing but new things come -/
class Kp (P : Sto → Prop) : Prop where
  kp : ∀ {S S' : Sto}, P S → Keeps S S' → P S'
local macro_rules | `(tactic| simp_all_arith [$S:term, $p:term, $hp:term, $S1:term, $g:term, $K:term]) => do
  match S, p, hp, S1, g, K with
  | `($S:ident), `($p:ident), `($hp:ident), `($S1:ident), `($g:ident), `($K:ident) => `(tactic| (intro $p:ident $hp:ident; generalize hS : put $S $p _ = $S1:ident; have $K:ident := keepNew $hp hS; have $g:ident := gotNew hS; clear hS))
  | _, _, _, _, _, _ => Lean.Macro.throwUnsupported
local macro_rules | `(tactic| simp_all_arith! [$args,*]) => do
  let as : Array Lean.Syntax := args.getElems.map (·.raw)
  let K : Lean.TSyntax `ident := ⟨as[0]![2]!⟩
  let mut t ← `(tactic| skip)
  for a in as.toList.tail do
    let h : Lean.TSyntax `ident := ⟨a[2]!⟩
    t ← `(tactic| ($t:tactic; first | replace $h:ident := Kp.kp $h $K | replace $h:ident := Upd.get $K $h (by simp)))
  return t
instance Kp_eq {a : Addr} {o : Ob} : Kp (fun S => S a = some o) := ⟨fun h K => K _ _ (by simp) h⟩
instance Kp_upd {A : List Addr} {S0 : Sto} : Kp (fun S => Upd A S0 S) := ⟨fun h K => h.trans (Keeps.up K)⟩
instance Kp_mk {p q : Addr} {m : Mk} : Kp (fun S => MkAt p q m S) := ⟨fun h K => h.up K (by simp) (by simp)⟩
instance Kp_market {g ps pk : Addr} {ms : List Mkr} {hs : List Hnd} : Kp (fun S => MarketAt g ps pk ms hs S) := ⟨fun h K => h.keep K⟩
instance Kp_own {w wm wh : Addr} {ms : List (Str × Mk)} {hs : List Hnd} : Kp (fun S => OwnAt w wm wh ms hs S) := ⟨fun h K => h.keep K⟩
instance Kp_st3 {a c l : Addr} {ns : List Int} : Kp (fun S => St3 a c l ns S) := ⟨fun h K => h.up K (by simp) (by simp) (by simp)⟩
instance Kp_lst {a b : Addr} {ns : List Int} : Kp (fun S => LSt a b ns S) := ⟨fun h K => h.up K (by simp) (by simp)⟩
/-- a comprehension whose items change something of A -/
theorem lc_inv {g : NG} {tt : NT} {te : NE} {kp : Keep} {p : Addr} {e : N.Env} {A : List Addr} {S0 : Sto} {Q : Sto → Prop} (P : D → Prop) (I : Sto → Prop) (pA : p ∉ A) (hk : ∀ S, Upd (p :: A) S0 S → kp S) (hI : ∀ S l, I S → I (put S p (.lst l))) : ∀ {ds acc : List D} {S : Sto}, acc.length + ds.length ≤ sizeLine → Upd (p :: A) S0 S → S p = some (.lst acc) → I S →
    (∀ x ∈ ds, ∀ S (Y : D → Sto → Prop) (N : Sto → Prop), I S → (∀ y S3, P y → I S3 → Upd A S S3 → Y y S3) → g x e S fun e2 S2 => tt e2 S2 fun b S3 => match b with | true => te e2 S3 Y | false => N S3) →
    (∀ S' (ys : List D), (∀ y ∈ ys, P y) → ys.length = ds.length → I S' → Upd (p :: A) S0 S' → S' p = some (.lst (acc ++ ys)) → Q S') → lcL g tt te kp p e ds S Q
  | [], acc, S, _, u, hp, i, _, q => q S [] (fun _ h => by cases h) rfl i u (by rw [List.append_nil]; exact hp)
  | x :: xs, acc, S, hl, u, hp, i, h, q => by
    simp only [List.length_cons] at hl
    refine h x (by simp) S _ _ i fun y S3 py i3 K3 => ?_
    have g3 := K3 _ _ pA hp
    rw [g3]
    have u3 : Upd (p :: A) S0 (N.put S3 p (.lst (acc ++ [y]))) := (u.trans (K3.mono fun a ha => List.mem_cons_of_mem _ ha)).trans (Upd.at (by simp))
    refine ⟨by omega, hk _ u3, lc_inv P I pA hk hI (by simp only [List.length_append, List.length_cons, List.length_nil]; omega) u3 put_same (hI _ _ i3) (fun z hz => h z (by simp [hz])) fun S' ys py' l' i' u' hp' => q S' (y :: ys) (fun z hz => ?_) (by simp [l']) i' u' (by rw [hp', List.append_assoc]; rfl)⟩
    rcases List.mem_cons.mp hz with rfl | hz
    · exact py
    · exact py' z hz
theorem runC_inv {g : NG} {tt : NT} {te : NE} {kp : Keep} {p : Addr} {e : N.Env} {A : List Addr} {S0 : Sto} {Q : Sto → Prop} {T : TgC g tt te Q} {ds : List D} (P : D → Prop) (I : Sto → Prop) (pA : p ∉ A) (hp : S0 p = Option.none) (hk : ∀ S, Upd A S0 S → kp S) (hI : ∀ S l, I S → I (put S p (.lst l))) (i0 : I S0) (hl : ds.length ≤ sizeLine)
    (h : ∀ x ∈ ds, ∀ S (Y : D → Sto → Prop) (N : Sto → Prop), I S → (∀ y S3, P y → I S3 → Upd A S S3 → Y y S3) → g x e S fun e2 S2 => tt e2 S2 fun b S3 => match b with | true => te e2 S3 Y | false => N S3)
    (q : ∀ S' (ys : List D), (∀ y ∈ ys, P y) → ys.length = ds.length → I S' → Upd A S0 S' → S' p = some (.lst ys) → Q S') : runC g tt te kp p e ds (N.put S0 p (.lst [])) Q T := by
  have dr : ∀ {S}, Upd (p :: A) S0 S → Upd A S0 S := fun u a o na e => u a o (by
    rw [List.mem_cons, not_or]
    exact ⟨(fun z => by rw [z, hp] at e; cases e), na⟩) e
  exact lc_inv P I pA (fun S u => hk S (dr u)) hI (by simpa using hl) (Upd.at (by simp)) put_same (hI _ _ i0) h fun S' ys py l' i' u' g' => q S' ys py l' i' (dr u') (by simpa using g')
theorem seq_join {t u : NS} {Z : NEnds} {e : N.Env} {S : Sto} (I : N.Env → Sto → Prop) (hI : ∀ e2 S2, I e2 S2 → u Z e2 S2) (hs : ∀ C : N.Env → Sto → Prop, (∀ e2 S2, I e2 S2 → C e2 S2) → t { Z with nx := C } e S) : sSeq t u Z e S := hs _ hI
/-- all addresses of a market -/
def fpM (g ps pk : Addr) (rs : List Mkr) : List Addr := g :: ps :: pk :: (rs.map (·.p) ++ rs.map (·.q))
theorem MarketAt.upF {g ps pk : Addr} {ms : List Mkr} {hs : List Hnd} {S S' : Sto} {A : List Addr} (h : MarketAt g ps pk ms hs S) (u : Upd A S S') (d : ∀ x ∈ A, x ∉ fpM g ps pk ms) : MarketAt g ps pk ms hs S' := by
  have f : ∀ x ∈ fpM g ps pk ms, x ∉ A := fun x hx ha => d x ha hx
  refine h.up u (f _ (by unfold fpM; simp)) (f _ (by unfold fpM; simp)) (f _ (by unfold fpM; simp)) fun r hr => ⟨f _ ?_, f _ ?_⟩
  · unfold fpM
    simp only [List.mem_cons, List.mem_append]
    exact .inr (.inr (.inr (.inl (List.mem_map.mpr ⟨r, hr, rfl⟩))))
  · unfold fpM
    simp only [List.mem_cons, List.mem_append]
    exact .inr (.inr (.inr (.inr (List.mem_map.mpr ⟨r, hr, rfl⟩))))
theorem MarketAt.some {g ps pk : Addr} {ms : List Mkr} {hs : List Hnd} {S : Sto} (h : MarketAt g ps pk ms hs S) {x : Addr} (hx : x ∈ fpM g ps pk ms) : S x ≠ Option.none := by
  unfold fpM at hx
  simp only [List.mem_cons, List.mem_append] at hx
  rcases hx with rfl | rfl | rfl | hx | hx
  · rw [h.ins]; simp
  · rw [h.sta]; simp
  · rw [h.poc]; simp
  · obtain ⟨r, hr, rfl⟩ := List.mem_map.mp hx
    rw [(h.mks r hr).ins]; simp
  · obtain ⟨r, hr, rfl⟩ := List.mem_map.mp hx
    rw [(h.mks r hr).lst]; simp
theorem fp_fresh {g ps pk : Addr} {ms : List Mkr} {S : Sto} (h1 : S g = Option.none) (h2 : S ps = Option.none) (h3 : S pk = Option.none) (h4 : ∀ r ∈ ms, S r.p = Option.none ∧ S r.q = Option.none) : ∀ x ∈ fpM g ps pk ms, S x = Option.none := by
  intro x hx
  unfold fpM at hx
  simp only [List.mem_cons, List.mem_append] at hx
  rcases hx with rfl | rfl | rfl | hx | hx
  · exact h1
  · exact h2
  · exact h3
  · obtain ⟨r, hr, rfl⟩ := List.mem_map.mp hx
    exact (h4 r hr).1
  · obtain ⟨r, hr, rfl⟩ := List.mem_map.mp hx
    exact (h4 r hr).2
theorem setM_p {ms : List Mkr} {nm : Str} {m' : Mk} : (setM ms nm m').map (·.p) = ms.map (·.p) := by
  unfold setM
  rw [List.map_map]
  apply List.map_congr_left
  intro r _
  show (if r.nm = nm then ({ r with m := m' } : Mkr) else r).p = r.p
  split <;> rfl
theorem fp_set {g ps pk : Addr} {ms : List Mkr} {nm : Str} {m' : Mk} : fpM g ps pk (setM ms nm m') = fpM g ps pk ms := by
  unfold fpM
  rw [setM_p, setM_q]
theorem St3.some {a c l : Addr} {ns : List Int} {S : Sto} (h : St3 a c l ns S) {x : Addr} (hx : x ∈ [a, c, l]) : S x ≠ Option.none := by
  obtain ⟨_, _, _, n, ls, h1, h2, h3, _⟩ := h
  simp only [List.mem_cons, List.not_mem_nil, or_false] at hx
  rcases hx with rfl | rfl | rfl
  · rw [h1]; simp
  · rw [h2]; simp
  · rw [h3]; simp
theorem St3.upF {a c l : Addr} {ns : List Int} {S S' : Sto} {A : List Addr} (h : St3 a c l ns S) (u : Upd A S S') (d : ∀ x ∈ A, x ∉ [a, c, l]) : St3 a c l ns S' := h.up u (fun z => d _ z (by simp)) (fun z => d _ z (by simp)) (fun z => d _ z (by simp))
theorem seq_join2 {t u v : NS} {Z : NEnds} {e : N.Env} {S : Sto} (I : N.Env → Sto → Prop) (hI : ∀ e2 S2, I e2 S2 → v Z e2 S2) (hs : ∀ C : N.Env → Sto → Prop, (∀ e2 S2, I e2 S2 → C e2 S2) → sSeq t u { Z with nx := C } e S) : sSeq t (sSeq u v) Z e S := hs _ hI
theorem five {ys : List D} (h : ys.length = 5) : ∃ a b c d e, ys = [a, b, c, d, e] := by
  match ys, h with
  | [a, b, c, d, e], _ => exact ⟨a, b, c, d, e, rfl⟩
theorem at_mem {xs : List D} {i : Int} (h0 : 0 ≤ i) (h1 : i < xs.length) : ∃ x, x ∈ xs ∧ atI xs i = some x := by
  refine ⟨xs[i.toNat]'(by omega), List.getElem_mem _, ?_⟩
  rw [atI_nat' h0, List.getElem?_eq_getElem (by omega)]

/-! ### words of any kind: what they write -/
def mkS (l : List Nat) : Str := ⟨l.toArray⟩
theorem tl_mkS (l : List Nat) : TL.tl (mkS l) = l := TL.tl_mk l
theorem mkS_tl (z : Str) : mkS (TL.tl z) = z := TL.mk_tl z
/-- cut at each s -/
def spl1 (s : Nat) : List Nat → List (List Nat)
  | [] => [[]]
  | c :: r => if c = s then [] :: spl1 s r else match spl1 s r with
    | [] => [[c]]
    | p :: ps => (c :: p) :: ps
theorem spl1_ne (s : Nat) : ∀ l, spl1 s l ≠ []
  | [] => by simp [spl1]
  | c :: r => by
    unfold spl1
    split
    · simp
    · split <;> simp
theorem spl1_no (s : Nat) : ∀ (l : List Nat) (p : List Nat), p ∈ spl1 s l → s ∉ p
  | [], p, h => by
    simp only [spl1, List.mem_singleton] at h
    subst h; simp
  | c :: r, p, h => by
    have ih := spl1_no s r
    unfold spl1 at h
    split at h
    · rcases List.mem_cons.mp h with rfl | h
      · simp
      · exact ih p h
    · rename_i hc
      split at h
      · rw [List.mem_singleton] at h
        subst h
        simp only [List.mem_singleton]
        exact fun z => hc z.symm
      · rename_i q qs e
        rcases List.mem_cons.mp h with rfl | h
        · intro z
          rcases List.mem_cons.mp z with z | z
          · exact hc z.symm
          · exact ih q (by rw [e]; simp) z
        · exact ih p (by rw [e]; simp [h])
theorem joinL_cons {s : Nat} {p : List Nat} {ps : List (List Nat)} (h : ps ≠ []) : TL.joinL [s] (p :: ps) = p ++ s :: TL.joinL [s] ps := by
  cases ps with
  | nil => exact absurd rfl h
  | cons q r => rfl
theorem spl1_join (s : Nat) : ∀ l, TL.joinL [s] (spl1 s l) = l
  | [] => rfl
  | c :: r => by
    have ih := spl1_join s r
    have ne := spl1_ne s r
    unfold spl1
    split
    · rename_i hc
      rw [joinL_cons ne, ih, hc]; rfl
    · split
      · rename_i e
        exact absurd e ne
      · rename_i p ps e
        rw [e] at ih
        cases ps with
        | nil =>
          have : p = r := ih
          rw [this]; rfl
        | cons q qs =>
          rw [joinL_cons (by simp)] at ih ⊢
          rw [List.cons_append, ih]
def splS (s : Nat) (z : Str) : List Str := (spl1 s (TL.tl z)).map mkS
theorem splS_no {s : Nat} {z w : Str} (h : w ∈ splS s z) : s ∉ TL.tl w := by
  obtain ⟨p, hp, rfl⟩ := List.mem_map.mp h
  rw [tl_mkS]
  exact spl1_no s _ p hp
theorem splS_ne {s : Nat} {z : Str} : splS s z ≠ [] := by
  unfold splS
  intro h
  exact spl1_ne s _ (List.map_eq_nil_iff.mp h)
theorem splS_join {s : Nat} {y : Str} (ey : TL.tl y = [s]) (z : Str) : Txt.join y (splS s z) = z := by
  refine TL.ext_tl ?_
  rw [TL.join_eq, TL.tl_join, ey]
  unfold splS
  rw [List.map_map]
  have : (TL.tl ∘ mkS) = id := funext fun l => tl_mkS l
  rw [this, List.map_id]
  exact spl1_join s _
theorem split_splS {s : Nat} {y : Str} (ey : TL.tl y = [s]) (hk : y.cps.all (· < 256) = true) (z : Str) : Txt.split z y = splS s z := by
  have := TL.split_join (parts := splS s z) ey hk splS_ne fun p hp => splS_no hp
  rw [splS_join ey] at this
  exact this
theorem split_sp (z : Str) : Txt.split z (Str.ofString " ") = splS 32 z := split_splS tl_sp (by decide +kernel) z
theorem split_nl (z : Str) : Txt.split z (Str.ofString "\n") = splS 10 z := split_splS tl_nl (by decide +kernel) z
theorem spl1_len (s : Nat) : ∀ l, (spl1 s l).length ≤ l.length + 1 ∧ ∀ p ∈ spl1 s l, p.length ≤ l.length
  | [] => ⟨by simp [spl1], fun p h => by simp only [spl1, List.mem_singleton] at h; subst h; simp⟩
  | c :: r => by
    obtain ⟨l1, l2⟩ := spl1_len s r
    unfold spl1
    split
    · refine ⟨by simp only [List.length_cons]; omega, fun p h => ?_⟩
      rcases List.mem_cons.mp h with rfl | h
      · simp
      · have := l2 p h
        simp only [List.length_cons]; omega
    · split
      · refine ⟨by simp, fun p h => ?_⟩
        rw [List.mem_singleton] at h
        subst h; simp
      · rename_i q qs e
        rw [e] at l1 l2
        refine ⟨by simp only [List.length_cons] at l1 ⊢; omega, fun p h => ?_⟩
        rcases List.mem_cons.mp h with rfl | h
        · have := l2 q (by simp)
          simp only [List.length_cons]; omega
        · have := l2 p (by simp [h])
          simp only [List.length_cons]; omega
theorem splS_len {s : Nat} {z : Str} : (splS s z).length ≤ z.length + 1 ∧ ∀ w ∈ splS s z, w.length ≤ z.length := by
  obtain ⟨l1, l2⟩ := spl1_len s (TL.tl z)
  unfold splS
  rw [List.length_map, TL.len_tl]
  refine ⟨l1, fun w hw => ?_⟩
  obtain ⟨p, hp, rfl⟩ := List.mem_map.mp hw
  rw [TL.len_tl, tl_mkS]
  exact l2 p hp
/-! numbers -/
def digV (l : List Nat) : Nat := l.foldl (fun a c => 10 * a + (c - 48)) 0
theorem digV_snoc (l : List Nat) (c : Nat) : digV (l ++ [c]) = 10 * digV l + (c - 48) := by
  unfold digV
  rw [List.foldl_append]; rfl
theorem digV_numL (n : Nat) : digV (TL.numL n) = n := by
  induction n using Nat.strongRecOn with
  | _ n ih =>
    by_cases h : n < 10
    · rw [TL.numL_lt h]
      show 10 * 0 + (48 + n - 48) = n
      omega
    · rw [TL.numL_step (by omega), digV_snoc, ih (n / 10) (by omega)]
      omega
def isDg (c : Nat) : Bool := decide (48 ≤ c) && decide (c ≤ 57)
/-- the signs of a number -/
def numBL (l : List Nat) : Bool := decide (1 ≤ l.length) && (decide (l.length ≤ 13) && (l.all isDg && (decide (l[0]? ≠ some 48) || decide (l = [48]))))
theorem numL_of : ∀ (k : Nat) (l : List Nat), l.length = k → 1 ≤ k → (l.all isDg) = true → (l[0]? ≠ some 48 ∨ l = [48]) → ∃ n, n < 10 ^ k ∧ TL.numL n = l
  | 0, _, _, h, _, _ => absurd h (by decide)
  | 1, l, hl, _, ha, _ => by
    obtain ⟨c, rfl⟩ := List.length_eq_one_iff.mp hl
    simp only [List.all_cons, List.all_nil, Bool.and_true, isDg, Bool.and_eq_true, decide_eq_true_eq] at ha
    refine ⟨c - 48, by omega, ?_⟩
    rw [TL.numL_lt (by omega)]
    congr 1
    omega
  | k + 2, l, hl, _, ha, hz => by
    have ne : l ≠ [] := by
      intro z
      rw [z] at hl
      simp at hl
    obtain ⟨l', c, rfl⟩ : ∃ l' c, l = l' ++ [c] := ⟨l.dropLast, l.getLast ne, (List.dropLast_concat_getLast ne).symm⟩
    rw [List.length_append, List.length_singleton] at hl
    rw [List.all_append, Bool.and_eq_true] at ha
    have h0 : (l' ++ [c])[0]? = l'[0]? := List.getElem?_append_left (by omega)
    have z0 : l'[0]? ≠ some 48 := by
      rcases hz with hz | hz
      · rw [h0] at hz; exact hz
      · have := congrArg List.length hz
        rw [List.length_append] at this
        simp only [List.length_singleton] at this
        omega
    obtain ⟨n, hn, en⟩ := numL_of (k + 1) l' (by omega) (by omega) ha.1 (.inl z0)
    have hc := ha.2
    simp only [List.all_cons, List.all_nil, Bool.and_true, isDg, Bool.and_eq_true, decide_eq_true_eq] at hc
    have n1 : 1 ≤ n := by
      by_cases z : n = 0
      · rw [z, TL.numL_lt (by omega)] at en
        rw [← en] at z0
        simp at z0
      · omega
    refine ⟨10 * n + (c - 48), ?_, ?_⟩
    · rw [Nat.pow_succ]; omega
    · rw [TL.numL_step (by omega), show (10 * n + (c - 48)) / 10 = n by omega, en, show 48 + (10 * n + (c - 48)) % 10 = c by omega]
def numB (z : Str) : Bool := numBL (TL.tl z)
theorem numB_sh {z : Str} (h : numB z = true) : ∃ n, n < 10 ^ 13 ∧ z = sh n := by
  unfold numB numBL at h
  simp only [Bool.and_eq_true, Bool.or_eq_true, decide_eq_true_eq] at h
  obtain ⟨h1, h2, h3, h4⟩ := h
  obtain ⟨n, hn, en⟩ := numL_of _ _ rfl h1 h3 h4
  refine ⟨n, Nat.lt_of_lt_of_le hn (Nat.pow_le_pow_right (by decide) h2), TL.ext_tl ?_⟩
  rw [tl_sh, en]
def numO (z : Str) : Option Int := if numB z then some ((digV (TL.tl z) : Nat) : Int) else Option.none
def opD : Option Int → D
  | some i => .int i
  | Option.none => .non
theorem numO_sh {n : Nat} (h : numB (sh n) = true) : numO (sh n) = some (n : Int) := by
  unfold numO
  rw [if_pos h, tl_sh, digV_numL]
theorem numO_b {z : Str} {i : Int} (h : numO z = some i) : 0 ≤ i ∧ i < 10000000000000 := by
  unfold numO at h
  split at h
  · rename_i hb
    obtain ⟨n, hn, rfl⟩ := numB_sh hb
    rw [tl_sh, digV_numL] at h
    cases h
    omega
  · cases h
theorem isDg_in (c : Nat) : isDg c = decide (c ∈ TL.tl "0123456789") := by
  rw [TL.tl_ofString]
  have e : ("0123456789".toList.map Char.toNat) = [48, 49, 50, 51, 52, 53, 54, 55, 56, 57] := by decide
  rw [e]
  unfold isDg
  rw [← Bool.decide_and]
  refine decide_eq_decide.mpr ?_
  simp only [List.mem_cons, List.not_mem_nil, or_false]
  omega
theorem number_in_no {z : Str} {S : Sto} {Q : NQ} {E} {T : TgQ Q E} (hl : z.length ≤ sizeLine) (h : numB z = false) (k : ∀ S', Keeps S S' → Q .non S') : runF sp_number_in [.str z] S Q E T := by
  simp_arith! [sp_number_in, m_number_in]
  have sl : (64 : Nat) ≤ sizeLine := by decide
  have lz := TL.len_tl z
  by_cases c1 : (1 : Int) ≤ (z.length : Nat)
  · by_cases c2 : ((z.length : Nat) : Int) ≤ 13
    · have d1 := decide_eq_true c1
      have d2 := decide_eq_true c2
      simp_arith [hl, if_pos, d1, d2, Bool.not_true]
      intro p hp
      refine runC_pure (inF "0123456789") (fun _ => trivial) (by unfold signsD; rw [List.length_map, Array.length_toList]; exact hl) ?_ ?_
      · intro x hx l Y N hY
        unfold signsD at hx
        obtain ⟨c, _, rfl⟩ := List.mem_map.mp hx
        simp_arith []
        exact ⟨rfl, hY⟩
      rw [inF_signs]
      simp_arith [put_same]
      rw [blsM]
      dsimp only
      rw [all_id]
      have K := k _ (Upd.new (o := .lst (((TL.tl z).map fun c => decide (c ∈ TL.tl "0123456789")).map D.bl)) hp)
      cases al : ((TL.tl z).all fun c => decide (c ∈ TL.tl "0123456789")) with
      | false => exact K
      | true =>
        have al2 : (TL.tl z).all isDg = true := by
          rw [← al]
          congr 1
          funext c
          exact isDg_in c
        unfold numB numBL at h
        rw [al2, decide_eq_true (show 1 ≤ (TL.tl z).length by omega), decide_eq_true (show (TL.tl z).length ≤ 13 by omega)] at h
        simp only [Bool.true_and, Bool.or_eq_false_iff, decide_eq_false_iff_not, ne_eq, Decidable.not_not] at h
        obtain ⟨h48, hz⟩ := h
        rw [Bool.not_true]
        dsimp only
        have at0 : atI z.cps.toList 0 = some 48 := by
          rw [atI_nat' (by decide)]
          exact h48
        refine ⟨hl, ?_⟩
        rw [at0]
        dsimp only
        have e0 : (({ cps := #[48] } : Str) = "0") := by decide
        have e1 : decide (z = "0") = false := decide_eq_false fun e => hz (by rw [e, TL.tl_ofString]; decide)
        rw [decide_eq_true e0]
        dsimp only
        rw [e1]
        exact K
    · have d1 := decide_eq_true c1
      have d2 := decide_eq_false c2
      simp_arith [hl, if_pos, d1, d2, Bool.not_false]
      exact k _ Upd.refl
  · have d1 := decide_eq_false c1
    simp_arith [hl, if_pos, d1, Bool.not_false]
    exact k _ Upd.refl
theorem number_in_gen {z : Str} {S : Sto} {Q : NQ} {E} {T : TgQ Q E} (hl : z.length ≤ sizeLine) (k : ∀ S', Keeps S S' → Q (opD (numO z)) S') : runF sp_number_in [.str z] S Q E T := by
  cases hb : numB z with
  | true =>
    obtain ⟨n, hn, rfl⟩ := numB_sh hb
    rw [numO_sh hb] at k
    exact number_in_yes hn k
  | false =>
    have e : numO z = Option.none := by unfold numO; rw [hb]; rfl
    rw [e] at k
    exact number_in_no hl hb k
/-! dues -/
def cut1 (s : Nat) : List Nat → List Nat × List Nat
  | [] => ([], [])
  | c :: r => if c = s then ([], r) else (c :: (cut1 s r).1, (cut1 s r).2)
theorem cut1_app {s : Nat} {a b : List Nat} (h : s ∉ a) : cut1 s (a ++ s :: b) = (a, b) := by
  induction a with
  | nil => unfold cut1; simp
  | cons c r ih =>
    rw [List.mem_cons, not_or] at h
    rw [List.cons_append]
    unfold cut1
    rw [if_neg (fun z => h.1 z.symm), ih h.2]
theorem cut1_no {s : Nat} {a : List Nat} (h : s ∉ a) : cut1 s a = (a, []) := by
  induction a with
  | nil => rfl
  | cons c r ih =>
    rw [List.mem_cons, not_or] at h
    unfold cut1
    rw [if_neg (fun z => h.1 z.symm), ih h.2]
theorem cut1_len (s : Nat) : ∀ l, (cut1 s l).1.length ≤ l.length ∧ (cut1 s l).2.length ≤ l.length
  | [] => by simp [cut1]
  | c :: r => by
    have := cut1_len s r
    unfold cut1
    split <;> simp only [List.length_cons, List.length_nil] <;> omega
theorem first_of {s : Nat} : ∀ {l : List Nat}, s ∈ l → ∃ a b, l = a ++ s :: b ∧ s ∉ a
  | c :: r, h => by
    by_cases e : c = s
    · exact ⟨[], r, by rw [e]; rfl, by simp⟩
    · rcases List.mem_cons.mp h with z | z
      · exact absurd z.symm e
      · obtain ⟨a, b, e1, e2⟩ := first_of z
        exact ⟨c :: a, b, by rw [e1]; rfl, by rw [List.mem_cons, not_or]; exact ⟨fun z => e z.symm, e2⟩⟩
theorem part_cut (z : Str) : (Txt.partition z (Str.ofString "/")).1 = mkS (cut1 47 (TL.tl z)).1 ∧ (Txt.partition z (Str.ofString "/")).2.2 = mkS (cut1 47 (TL.tl z)).2 := by
  have ey : TL.tl (Str.ofString "/") = 47 :: [] := by rw [TL.tl_ofString]; decide
  by_cases h : 47 ∈ TL.tl z
  · obtain ⟨a, b, e1, e2⟩ := first_of h
    have ez : z = mkS a ++ Str.ofString "/" ++ mkS b := by
      refine TL.ext_tl ?_
      rw [TL.tl_append, TL.tl_append, tl_mkS, tl_mkS, ey, e1]
      simp
    have ep : Txt.partition z (Str.ofString "/") = (mkS a, Str.ofString "/", mkS b) := by
      rw [ez]
      exact TL.partition_app ey (by rw [tl_mkS]; exact e2)
    rw [ep, e1, cut1_app e2]
    exact ⟨rfl, rfl⟩
  · rw [TL.partition_none ey h, cut1_no h]
    exact ⟨(mkS_tl z).symm, rfl⟩
def dueA (z : Str) : Str := mkS (cut1 47 (TL.tl z)).1
def dueB2 (z : Str) : Str := mkS (cut1 47 (TL.tl z)).2
def dueO (z : Str) : Option (Int × Int) := match numO (dueA z), numO (dueB2 z) with
  | some t, some b => some (t, b)
  | _, _ => Option.none
def opP : Option (Int × Int) → D
  | some (t, b) => .tup [.int t, .int b]
  | Option.none => .non
theorem due_in_gen {z : Str} {S : Sto} {Q : NQ} {E} {T : TgQ Q E} (hl : z.length ≤ sizeLine) (k : ∀ S', Keeps S S' → Q (opP (dueO z)) S') : runF sp_due_in [.str z] S Q E T := by
  simp_arith! [sp_due_in, m_due_in]
  have ep := part_cut z
  have lc := cut1_len 47 (TL.tl z)
  have l1 : (dueA z).length ≤ sizeLine := by
    unfold dueA
    rw [TL.len_tl, tl_mkS]
    have := TL.len_tl z
    omega
  have l2 : (dueB2 z).length ≤ sizeLine := by
    unfold dueB2
    rw [TL.len_tl, tl_mkS]
    have := TL.len_tl z
    omega
  have e1 : ((Str.ofString "/").length == 0) = false := by decide
  simp_arith [e1, hl]
  generalize Txt.partition z (Str.ofString "/") = pp at ep ⊢
  obtain ⟨p1, p2, p3⟩ := pp
  obtain ⟨rfl, rfl⟩ := ep
  dsimp only
  show runF sp_number_in [.str (dueA z)] _ _ _ _
  refine number_in_gen l1 fun S1 K1 => ?_
  unfold dueO at k
  cases h1 : numO (dueA z) with
  | none =>
    rw [h1] at k
    simp only [opD]
    simp_arith []
    exact k _ K1
  | some t =>
    rw [h1] at k
    simp only [opD]
    simp_arith []
    show runF sp_number_in [.str (dueB2 z)] _ _ _ _
    refine number_in_gen l2 fun S2 K2 => ?_
    cases h2 : numO (dueB2 z) with
    | none =>
      rw [h2] at k
      simp only [opD]
      simp_arith []
      exact k _ (K1.trans K2)
    | some b =>
      rw [h2] at k
      simp only [opD]
      simp_arith []
      show runF sp_number_in [.str (dueA z)] _ _ _ _
      refine number_in_gen l1 fun S3 K3 => ?_
      rw [h1]
      simp only [opD]
      try simp_arith []
      show runF sp_number_in [.str (dueB2 z)] _ _ _ _
      refine number_in_gen l2 fun S4 K4 => ?_
      rw [h2]
      simp only [opD]
      try simp_arith []
      exact k _ (((K1.trans K2).trans K3).trans K4)

/-! ### the maker that words write -/
def three : Option Int → Option Int → Option (Int × Int) → Option (Int × Int × Int × Int)
  | some s, some c, some (t, b) => some (s, c, t, b)
  | _, _, _ => Option.none
def plainO : List Str → Option Mk
  | [_, _, w, a, b, d] => if w = "product" then (match numO a, numO b, dueO d with
    | some s, some c, some (t, u) => some ⟨.pr, s, c, t, u, 0, 0⟩
    | _, _, _ => Option.none) else Option.none
  | [_, _, w, a, b, d, x, y] => if w = "stretch" ∨ w = "sum" then (match numO a, numO b, dueO d, numO x, numO y with
    | some s, some c, some (t, u), some i, some j => some ⟨if w = "stretch" then .st else .su, s, c, t, u, i, j⟩
    | _, _, _, _, _ => Option.none) else Option.none
  | _ => Option.none
def opM : Option Mk → D
  | some m => m.d
  | Option.none => .non
theorem sizes_at (w : Str) : List.lookup w c_SIZES = if w = "product" then some 6 else if w = "stretch" then some 8 else if w = "sum" then some 8 else Option.none := by
  unfold c_SIZES
  simp only [List.lookup]
  by_cases h1 : w = "product"
  · subst h1; rfl
  · have b1 : (w == Str.ofString "product") = false := beq_eq_false_iff_ne.mpr h1
    rw [b1, if_neg h1]
    by_cases h2 : w = "stretch"
    · subst h2; rfl
    · have b2 : (w == Str.ofString "stretch") = false := beq_eq_false_iff_ne.mpr h2
      rw [b2, if_neg h2]
      by_cases h3 : w = "sum"
      · subst h3; rfl
      · have b3 : (w == Str.ofString "sum") = false := beq_eq_false_iff_ne.mpr h3
        rw [b3, if_neg h3]
def numD : D → D
  | .str z => opD (numO z)
  | _ => .non
theorem opD_flat (o : Option Int) : flatD (opD o) = true := by cases o <;> rfl
theorem opD_non (o : Option Int) : eqF (opD o) .non = o.isNone := by cases o <;> rfl
theorem plain_in_6 {p : Addr} {w0 w1 a b d : Str} {S : Sto} {Q : NQ} {E} {T : TgQ Q E} (la : a.length ≤ sizeLine) (lb : b.length ≤ sizeLine) (ld : d.length ≤ sizeLine) (hp : S p = some (.lst [.str w0, .str w1, .str "product", .str a, .str b, .str d])) (k : ∀ S', Keeps S S' → Q (opM (plainO [w0, w1, Str.ofString "product", a, b, d])) S') : runF sp_plain_in [.ref p] S Q E T := by
  simp_arith! [sp_plain_in, m_plain_in]
  have lk : List.lookup (Str.ofString "product") c_SIZES = some 6 := by decide
  have n1 : decide (((6 : Nat) : Int) < 6) = false := by decide
  have n2 : decide ((6 : Int) = ((6 : Nat) : Int)) = true := by decide
  have n3 : decide (((6 : Nat) : Int) = 6) = true := by decide
  obtain ⟨cw1, cw2⟩ := cutW (a := .str w0) (b := .str w1) (c := .str "product") (d := .str a) (e := .str b) (f := .str d) []
  simp_arith [hp, atI_2, lk, n1, n2, Bool.not_true]
  intro p1 hp1
  have K1 : Keeps S (put S p1 (.lst [.str a, .str b])) := Upd.new hp1
  rw [cw1]
  have g1 := K1 _ _ (by simp) hp
  have a1 : put S p1 (.lst [.str a, .str b]) p1 = some (.lst [.str a, .str b]) := put_same
  generalize put S p1 (.lst [.str a, .str b]) = S1 at *
  rw [g1]
  dsimp only
  rw [cw2]
  intro p2 hp2
  have K2 : Keeps S1 (put S1 p2 (.lst [])) := Upd.new hp2
  have g2 := K2 _ _ (by simp) a1
  have a2 : put S1 p2 (.lst []) p2 = some (.lst []) := put_same
  have h2 := K2 _ _ (by simp) g1
  generalize put S1 p2 (.lst []) = S2 at *
  rw [g2, a2]
  refine ⟨by simp only [List.length_cons, List.length_nil]; decide, fun p3 hp3 => ?_⟩
  have K3 : Keeps S2 (put S2 p3 (.lst [.str a, .str b])) := Upd.new hp3
  have a3 : put S2 p3 (.lst [.str a, .str b]) p3 = some (.lst [.str a, .str b]) := put_same
  have h3 := K3 _ _ (by simp) h2
  simp only [List.cons_append, List.nil_append]
  generalize put S2 p3 (.lst [.str a, .str b]) = S3 at *
  rw [a3]
  dsimp only
  intro p4 hp4
  have n43 : p3 ≠ p4 := fun z => by rw [z] at a3; rw [hp4] at a3; cases a3
  refine ⟨by rw [put_ne n43]; exact a3, ?_⟩
  refine runC_keep numD hp4 (fun S K => K _ _ (by simp) a3) (by simp only [List.length_cons, List.length_nil]; decide) (fun x hx S Y N K hY => ?_) fun S4 K4 g4 => ?_
  · obtain ⟨i, rfl, li⟩ : ∃ i : Str, x = .str i ∧ i.length ≤ sizeLine := by
      simp only [List.mem_cons, List.not_mem_nil, or_false] at hx
      rcases hx with rfl | rfl
      · exact ⟨a, rfl, la⟩
      · exact ⟨b, rfl, lb⟩
    simp_arith []
    exact number_in_gen li fun S5 K5 => hY S5 K5
  simp only [List.map_cons, List.map_nil, numD] at g4
  have h4 := K4 _ _ (by simp) h3
  have at5 : atI ([.str w0, .str w1, .str "product", .str a, .str b, .str d] : List D) 5 = some (.str d) := rfl
  simp_arith [h4, at5]
  refine due_in_gen ld fun S5 K5 => ?_
  have h5 := K5 _ _ (by simp) h4
  have g5 := K5 _ _ (by simp) g4
  have kk := k S5 (((((K1.trans K2).trans K3).trans K4)).trans K5)
  have fn : flatD .non = true := rfl
  have fl : ([opD (numO a), opD (numO b)] : List D).all flatD = true := by simp [opD_flat]
  have an : ([opD (numO a), opD (numO b)] : List D).any (fun d => eqF d .non) = ((numO a).isNone || (numO b).isNone) := by simp [opD_non]
  have ep : plainO [w0, w1, Str.ofString "product", a, b, d] = (match numO a, numO b, dueO d with
    | some s, some c, some (t, u) => some ⟨.pr, s, c, t, u, 0, 0⟩
    | _, _, _ => Option.none) := by unfold plainO; exact if_pos rfl
  rw [ep] at kk
  simp_arith [g5, fn, fl, an]
  cases ea : numO a with
  | none =>
    rw [ea] at kk
    exact kk
  | some s =>
    cases eb : numO b with
    | none =>
      rw [ea, eb] at kk
      exact kk
    | some c =>
      cases ed : dueO d with
      | none =>
        rw [ea, eb, ed] at kk
        exact kk
      | some tu =>
        obtain ⟨t, u⟩ := tu
        rw [ea, eb, ed] at kk
        rw [ea, eb] at g5
        simp only [opD] at g5
        have i0 : atI ([.int s, .int c] : List D) 0 = some (.int s) := rfl
        have i1 : atI ([.int s, .int c] : List D) 1 = some (.int c) := rfl
        have e1 : ((Option.isNone (some s)) || Option.isNone (some c)) = false := rfl
        simp_arith [e1, opP, g5, h5, i0, i1, n3, atI_2]
        first | exact kk | (refine ⟨?_, kk⟩; decide)
theorem plain_in_8 {p : Addr} {w0 w1 w2 a b d x y : Str} (hw : w2 = "stretch" ∨ w2 = "sum") {S : Sto} {Q : NQ} {E} {T : TgQ Q E} (la : a.length ≤ sizeLine) (lb : b.length ≤ sizeLine) (ld : d.length ≤ sizeLine) (lx : x.length ≤ sizeLine) (ly : y.length ≤ sizeLine) (hp : S p = some (.lst [.str w0, .str w1, .str w2, .str a, .str b, .str d, .str x, .str y])) (k : ∀ S', Keeps S S' → Q (opM (plainO [w0, w1, w2, a, b, d, x, y])) S') : runF sp_plain_in [.ref p] S Q E T := by
  simp_arith! [sp_plain_in, m_plain_in]
  have lk : List.lookup w2 c_SIZES = some 8 := by rcases hw with rfl | rfl <;> decide
  have n1 : decide (((8 : Nat) : Int) < 6) = false := by decide
  have n2 : decide ((8 : Int) = ((8 : Nat) : Int)) = true := by decide
  have n3 : decide (((8 : Nat) : Int) = 6) = false := by decide
  obtain ⟨cw1, cw2⟩ := cutW (a := .str w0) (b := .str w1) (c := .str w2) (d := .str a) (e := .str b) (f := .str d) [.str x, .str y]
  simp_arith [hp, atI_2, lk, n1, n2, Bool.not_true]
  intro p1 hp1
  have K1 : Keeps S (put S p1 (.lst [.str a, .str b])) := Upd.new hp1
  rw [cw1]
  have g1 := K1 _ _ (by simp) hp
  have a1 : put S p1 (.lst [.str a, .str b]) p1 = some (.lst [.str a, .str b]) := put_same
  generalize put S p1 (.lst [.str a, .str b]) = S1 at *
  rw [g1]
  dsimp only
  rw [cw2]
  intro p2 hp2
  have K2 : Keeps S1 (put S1 p2 (.lst [.str x, .str y])) := Upd.new hp2
  have g2 := K2 _ _ (by simp) a1
  have a2 : put S1 p2 (.lst [.str x, .str y]) p2 = some (.lst [.str x, .str y]) := put_same
  have h2 := K2 _ _ (by simp) g1
  generalize put S1 p2 (.lst [.str x, .str y]) = S2 at *
  rw [g2, a2]
  refine ⟨by simp only [List.length_cons, List.length_nil]; decide, fun p3 hp3 => ?_⟩
  have K3 : Keeps S2 (put S2 p3 (.lst [.str a, .str b, .str x, .str y])) := Upd.new hp3
  have a3 : put S2 p3 (.lst [.str a, .str b, .str x, .str y]) p3 = some (.lst [.str a, .str b, .str x, .str y]) := put_same
  have h3 := K3 _ _ (by simp) h2
  simp only [List.cons_append, List.nil_append]
  generalize put S2 p3 (.lst [.str a, .str b, .str x, .str y]) = S3 at *
  rw [a3]
  dsimp only
  intro p4 hp4
  have n43 : p3 ≠ p4 := fun z => by rw [z] at a3; rw [hp4] at a3; cases a3
  refine ⟨by rw [put_ne n43]; exact a3, ?_⟩
  refine runC_keep numD hp4 (fun S K => K _ _ (by simp) a3) (by simp only [List.length_cons, List.length_nil]; decide) (fun u hx S Y N K hY => ?_) fun S4 K4 g4 => ?_
  · obtain ⟨i, rfl, li⟩ : ∃ i : Str, u = .str i ∧ i.length ≤ sizeLine := by
      simp only [List.mem_cons, List.not_mem_nil, or_false] at hx
      rcases hx with rfl | rfl | rfl | rfl
      · exact ⟨a, rfl, la⟩
      · exact ⟨b, rfl, lb⟩
      · exact ⟨x, rfl, lx⟩
      · exact ⟨y, rfl, ly⟩
    simp_arith []
    exact number_in_gen li fun S5 K5 => hY S5 K5
  simp only [List.map_cons, List.map_nil, numD] at g4
  have h4 := K4 _ _ (by simp) h3
  have at5 : atI ([.str w0, .str w1, .str w2, .str a, .str b, .str d, .str x, .str y] : List D) 5 = some (.str d) := rfl
  simp_arith [h4, at5]
  refine due_in_gen ld fun S5 K5 => ?_
  have h5 := K5 _ _ (by simp) h4
  have g5 := K5 _ _ (by simp) g4
  have kk := k S5 (((((K1.trans K2).trans K3).trans K4)).trans K5)
  have fn : flatD .non = true := rfl
  have fl : ([opD (numO a), opD (numO b), opD (numO x), opD (numO y)] : List D).all flatD = true := by simp [opD_flat]
  have an : ([opD (numO a), opD (numO b), opD (numO x), opD (numO y)] : List D).any (fun d => eqF d .non) = ((numO a).isNone || ((numO b).isNone || ((numO x).isNone || (numO y).isNone))) := by simp [opD_non]
  have ep : plainO [w0, w1, w2, a, b, d, x, y] = (match numO a, numO b, dueO d, numO x, numO y with
    | some s, some c, some (t, u), some i, some j => some ⟨if w2 = "stretch" then .st else .su, s, c, t, u, i, j⟩
    | _, _, _, _, _ => Option.none) := by unfold plainO; exact if_pos hw
  rw [ep] at kk
  simp_arith [g5, fn, fl, an]
  cases ea : numO a with
  | none => rw [ea] at kk; exact kk
  | some s =>
    cases eb : numO b with
    | none => rw [ea, eb] at kk; exact kk
    | some c =>
      cases ex : numO x with
      | none =>
        rw [ea, eb, ex] at kk
        split at kk
        · contradiction
        · exact kk
      | some i =>
        cases ey : numO y with
        | none =>
          rw [ea, eb, ex, ey] at kk
          split at kk
          · contradiction
          · exact kk
        | some j =>
          cases ed : dueO d with
          | none => rw [ea, eb, ed, ex, ey] at kk; exact kk
          | some tu =>
            obtain ⟨t, u⟩ := tu
            rw [ea, eb, ed, ex, ey] at kk
            rw [ea, eb, ex, ey] at g5
            simp only [opD] at g5
            have i0 : atI ([.int s, .int c, .int i, .int j] : List D) 0 = some (.int s) := rfl
            have i1 : atI ([.int s, .int c, .int i, .int j] : List D) 1 = some (.int c) := rfl
            have i2 : atI ([.int s, .int c, .int i, .int j] : List D) 2 = some (.int i) := rfl
            have i3 : atI ([.int s, .int c, .int i, .int j] : List D) 3 = some (.int j) := rfl
            have e1 : ((Option.isNone (some s)) || (Option.isNone (some c) || (Option.isNone (some i) || Option.isNone (some j)))) = false := rfl
            have em : (opM (some (Mk.mk (if w2 = "stretch" then .st else .su) s c t u i j))) = .tup [.str w2, .int s, .int c, .tup [.int t, .int u], .tup [.int i, .int j]] := by
              rcases hw with rfl | rfl
              · rfl
              · have n3 : ("sum" = "stretch") = False := by decide
                simp only [ofString_inj, n3, if_false]
                rfl
            have kk := (show Q (opM (some (Mk.mk (if w2 = "stretch" then .st else .su) s c t u i j))) S5 from kk)
            rw [em] at kk
            simp_arith [e1, opP, g5, h5, i0, i1, i2, i3, n3, atI_2, List.cons_append, List.nil_append]
            first | exact kk | (refine ⟨?_, kk⟩; decide)
theorem plain_in_gen {p : Addr} {ws : List Str} {S : Sto} {Q : NQ} {E} {T : TgQ Q E} (hz : ∀ z ∈ ws, z.length ≤ sizeLine) (hp : S p = some (.lst (ws.map D.str))) (k : ∀ S', Keeps S S' → Q (opM (plainO ws)) S') : runF sp_plain_in [.ref p] S Q E T := by
  by_cases l6 : ws.length < 6
  · have e : plainO ws = Option.none := by
      unfold plainO
      split
      · simp at l6
      · simp at l6
      · rfl
    rw [e] at k
    simp_arith! [sp_plain_in, m_plain_in]
    have d1 : decide (((ws.length : Nat) : Int) < 6) = true := decide_eq_true (by omega)
    simp_arith [hp, List.length_map, d1]
    exact k _ Upd.refl
  · obtain ⟨w0, w1, w2, a, b, d, r, rfl⟩ : ∃ w0 w1 w2 a b d r, ws = w0 :: w1 :: w2 :: a :: b :: d :: r := by
      rcases ws with _ | ⟨w0, _ | ⟨w1, _ | ⟨w2, _ | ⟨a, _ | ⟨b, _ | ⟨d, r⟩⟩⟩⟩⟩⟩
      · simp at l6
      · simp at l6
      · simp at l6
      · simp at l6
      · simp at l6
      · simp at l6
      · exact ⟨_, _, _, _, _, _, _, rfl⟩
    have la := hz a (by simp)
    have lb := hz b (by simp)
    have ld := hz d (by simp)
    by_cases h6 : w2 = "product" ∧ r = []
    · obtain ⟨rfl, rfl⟩ := h6
      exact plain_in_6 la lb ld hp k
    by_cases h8 : (w2 = "stretch" ∨ w2 = "sum") ∧ r.length = 2
    · obtain ⟨hw, h2⟩ := h8
      obtain ⟨x, y, rfl⟩ : ∃ x y, r = [x, y] := by
        rcases r with _ | ⟨x, _ | ⟨y, _ | ⟨z, q⟩⟩⟩ <;> first | (simp at h2; done) | exact ⟨_, _, rfl⟩
      exact plain_in_8 hw la lb ld (hz x (by simp)) (hz y (by simp)) hp k
    have e : plainO (w0 :: w1 :: w2 :: a :: b :: d :: r) = Option.none := by
      unfold plainO
      split
      · rename_i e
        obtain ⟨_, _, rfl, _, _, _, rfl⟩ := (by simpa using e : _ ∧ _ ∧ _ ∧ _ ∧ _ ∧ _ ∧ _)
        exact if_neg fun z => h6 ⟨z, rfl⟩
      · rename_i e
        obtain ⟨_, _, rfl, _, _, _, rfl⟩ := (by simpa using e : _ ∧ _ ∧ _ ∧ _ ∧ _ ∧ _ ∧ _)
        exact if_neg fun z => h8 ⟨z, rfl⟩
      · rfl
    rw [e] at k
    simp_arith! [sp_plain_in, m_plain_in]
    have d1 : decide ((((r.length + 1 + 1 + 1 + 1 + 1 + 1 : Nat)) : Int) < 6) = false := decide_eq_false (by omega)
    have sz := sizes_at w2
    by_cases p1 : w2 = "product"
    · rw [if_pos p1] at sz
      have r1 : r.length ≠ 0 := fun z => h6 ⟨p1, List.length_eq_zero_iff.mp z⟩
      have d2 : decide ((6 : Int) = ((r.length + 1 + 1 + 1 + 1 + 1 + 1 : Nat) : Int)) = false := decide_eq_false (by omega)
      simp_arith [hp, List.length_map, d1, atI_2, sz, d2, Bool.not_false]
      exact k _ Upd.refl
    · rw [if_neg p1] at sz
      by_cases p2 : w2 = "stretch" ∨ w2 = "sum"
      · have sz2 : List.lookup w2 c_SIZES = some 8 := by
          rw [sz]
          rcases p2 with rfl | rfl
          · rfl
          · by_cases q : (Str.ofString "sum") = "stretch"
            · rw [if_pos q]
            · rw [if_neg q, if_pos rfl]
        have r1 : r.length ≠ 2 := fun z => h8 ⟨p2, z⟩
        have d2 : decide ((8 : Int) = ((r.length + 1 + 1 + 1 + 1 + 1 + 1 : Nat) : Int)) = false := decide_eq_false (by omega)
        simp_arith [hp, List.length_map, d1, atI_2, sz2, d2, Bool.not_false]
        exact k _ Upd.refl
      · rw [not_or] at p2
        rw [if_neg p2.1, if_neg p2.2] at sz
        have d2 : decide ((0 : Int) = ((r.length + 1 + 1 + 1 + 1 + 1 + 1 : Nat) : Int)) = false := decide_eq_false (by omega)
        simp_arith [hp, List.length_map, d1, atI_2, sz, d2, Bool.not_false]
        exact k _ Upd.refl

/-! ### rows that write nothing -/
theorem kn2_flat {S : Sto} {d : D} (h : Kn S d) (n : ∀ ds, d ≠ .tup ds) : Kn2 S d := ⟨h, fun ds e => absurd e (n ds)⟩
theorem kn3_d {m : Mk} {S : Sto} : Kn3 S m.d := by
  have sl : (10 : Nat) ≤ sizeLine := by decide
  have k2 : ∀ x y : Int, Kn2 S (.tup [.int x, .int y]) := fun x y => kn_pair trivial trivial
  refine ⟨trivial, fun ds e => ?_⟩
  rw [md m] at e
  cases e
  refine ⟨?_, fun x hx => ?_⟩
  · have : m.more.length ≤ 1 := by unfold Mk.more; cases m.k <;> simp
    simp only [List.length_cons]; omega
  · simp only [List.mem_cons] at hx
    rcases hx with rfl | rfl | rfl | rfl | hx
    · exact kn2_flat trivial nofun
    · exact kn2_flat trivial nofun
    · exact kn2_flat trivial nofun
    · exact k2 _ _
    · unfold Mk.more at hx
      cases hk : m.k with
      | pr => rw [hk] at hx; cases hx
      | st => rw [hk] at hx; rw [List.mem_singleton.mp hx]; exact k2 _ _
      | su => rw [hk] at hx; rw [List.mem_singleton.mp hx]; exact k2 _ _
theorem d_inj {m m' : Mk} (o : m'.Ok) (e : m.d = m'.d) : m.Ok := by
  rw [md m, md m'] at e
  have n1 : ("product" = "stretch") = False := by decide
  have n2 : ("product" = "sum") = False := by decide
  have n3 : ("stretch" = "product") = False := by decide
  have n4 : ("stretch" = "sum") = False := by decide
  have n5 : ("sum" = "product") = False := by decide
  have n6 : ("sum" = "stretch") = False := by decide
  obtain ⟨k, s, c, t, b, x, y⟩ := m
  obtain ⟨k', s', c', t', b', x', y'⟩ := m'
  cases k <;> cases k' <;> simp only [Mk.word, Mk.more, D.tup.injEq, List.cons.injEq, D.str.injEq, D.int.injEq, ofString_inj, n1, n2, n3, n4, n5, n6, false_and, true_and, and_true] at e
  · obtain ⟨rfl, rfl, rfl, rfl⟩ := e
    exact ⟨o.s0, o.s1, o.c0, o.c1, o.due, fun _ => o.pr rfl, nofun, nofun⟩
  · obtain ⟨rfl, rfl, ⟨rfl, rfl⟩, rfl, rfl⟩ := e
    exact o
  · obtain ⟨rfl, rfl, ⟨rfl, rfl⟩, rfl, rfl⟩ := e
    exact o
def Mk.okB (m : Mk) : Bool := (decide (0 ≤ m.s) && (decide (m.s ≤ 1000000000000) && (decide (0 ≤ m.c) && (decide (m.c ≤ 1000000000000) && (decide (0 ≤ m.t) && (decide (1 ≤ m.b) && (decide (m.b ≤ 10000) && decide (10 * m.t ≤ m.b)))))))) && (match m.k with
  | .pr => decide (1 ≤ m.s) && decide (1 ≤ m.c)
  | .st => decide (0 ≤ m.x) && (decide (m.x ≤ 1000000000000) && (decide (0 ≤ m.y) && (decide (m.y ≤ 1000000000000) && (decide (1 ≤ m.s + m.x) && decide (1 ≤ m.c + m.y)))))
  | .su => decide (1 ≤ m.x) && (decide (m.x ≤ 1000000) && (decide (1 ≤ m.y) && decide (m.y ≤ 1000000))))
theorem Mk.Ok.b {m : Mk} (o : m.Ok) : m.okB = true := by
  obtain ⟨k, s, c, t, b, x, y⟩ := m
  obtain ⟨t0, b1, b2, tb⟩ := o.due
  unfold Mk.okB
  cases k with
  | pr =>
    obtain ⟨h1, h2⟩ := o.pr rfl
    simp [o.s0, o.s1, o.c0, o.c1, t0, b1, b2, tb, h1, h2]
  | st =>
    obtain ⟨h1, h2, h3, h4, h5, h6⟩ := o.st rfl
    simp [o.s0, o.s1, o.c0, o.c1, t0, b1, b2, tb, h1, h2, h3, h4, h5, h6]
  | su =>
    obtain ⟨h1, h2, h3, h4⟩ := o.su rfl
    simp [o.s0, o.s1, o.c0, o.c1, t0, b1, b2, tb, h1, h2, h3, h4]
theorem maker_of_bad {m : Mk} (n : m.okB = false) {S : Sto} {Q : NQ} {E} {T : TgQ Q E} : runF sp_maker_of [m.d] S Q E T = E "BadMaker" Option.none S := by
  have nm : NoM m.d := fun ⟨m', o, e⟩ => by
    have := (d_inj o e).b
    rw [n] at this
    cases this
  simp_arith! [sp_maker_of, m_maker_of]
  simp_arith [is_plain_no kn3_d nm, Bool.not_false]
theorem made_no {m : Mk} (n : m.okB = false) {S : Sto} {Q : NQ} {E} {T : TgQ Q E} (k : Q .non S) : runF sp_made_or_none [m.d] S Q E T := by
  have cm : catchOf CL "BadMaker" "BadMaker" = some true := by decide
  simp_arith! [sp_made_or_none, m_made_or_none]
  simp_arith [maker_of_bad n, cm]
  exact k
/-- words that write no maker -/
def mkBad (ws : List Str) : Bool := match plainO ws with
  | some m => !m.okB
  | Option.none => true
theorem put_maker_bad {g w : Addr} {ws : List Str} {S : Sto} {Q : NQ} {E} {T : TgQ Q E} (hz : ∀ z ∈ ws, z.length ≤ sizeLine) (hw : S w = some (.lst (ws.map D.str))) (hb : mkBad ws = true) (k : ∀ S', Keeps S S' → Q (.bl false) S') : runF sp_put_maker [.ref g, .ref w] S Q E T := by
  simp_arith! [sp_put_maker, m_put_maker]
  try simp_arith []
  refine plain_in_gen hz hw fun S1 K1 => ?_
  unfold mkBad at hb
  cases e : plainO ws with
  | none =>
    simp only [opM]
    simp_arith []
    exact k _ K1
  | some m =>
    rw [e] at hb
    have hb' : m.okB = false := by simpa using hb
    simp only [opM]
    have md' := md m
    rw [md m]
    simp_arith []
    rw [← md m]
    refine made_no hb' ?_
    simp_arith []
    exact k _ K1
theorem put_maker_full {g ps pk w : Addr} {ms : List Mkr} {hs : List Hnd} {nm : Str} {m : Mk} {S : Sto} {Q : NQ} {E} {T : TgQ Q E} (G : MarketAt g ps pk ms hs S) (o : m.Ok) (hl : ms.length = 6 ∨ hs ≠ []) (hw : S w = some (.lst ((mwords nm m).map D.str))) (k : ∀ S', Keeps S S' → Q (.bl false) S') : runF sp_put_maker [.ref g, .ref w] S Q E T := by
  simp_arith! [sp_put_maker, m_put_maker]
  try simp_arith []
  refine plain_in_yes o hw fun S1 K1 => ?_
  have G1 := G.keep K1
  have md' := md m
  rw [md m]
  simp_arith []
  rw [← md m]
  refine made_yes o fun p q S2 hp hq M2 K2 => ?_
  have G2 := G1.keep K2
  by_cases l6 : ms.length = 6
  · have ln : decide ((((stD ms).length : Nat) : Int) = 6) = true := by
      unfold stD
      rw [List.length_map]
      exact decide_eq_true (by omega)
    simp_arith [G2.ins, flds1, flds2, G2.sta, ln, Option.map_some]
    exact k _ (K1.trans K2)
  · have ln : decide ((((stD ms).length : Nat) : Int) = 6) = false := by
      unfold stD
      rw [List.length_map]
      exact decide_eq_false (by omega)
    have hne : poD hs ≠ [] := by
      rcases hl with h | h
      · exact absurd h l6
      · unfold poD
        exact fun z => h (List.map_eq_nil_iff.mp z)
    simp_arith [G2.ins, flds1, flds2, G2.sta, ln, Option.map_some]
    intro z hz
    have K3 : Keeps S2 (put S2 z (.dic [])) := Upd.new hz
    have G3 := G2.keep K3
    have gz : put S2 z (.dic []) z = some (.dic []) := put_same
    generalize put S2 z (.dic []) = S3 at *
    simp_arith [G3.poc, gz, eqDic_no hne, Bool.not_false]
    exact k _ ((K1.trans K2).trans K3)
/-- words that write no hand -/
def hdBad : List Str → Bool
  | [_, _, a, b] => (match numO a, numO b with
    | some i, some j => decide (1000000000000 < max i j)
    | _, _ => true)
  | _ => true
theorem put_hand_bad {g ps pk w : Addr} {ms : List Mkr} {hs : List Hnd} {ws : List Str} {S : Sto} {Q : NQ} {E} {T : TgQ Q E} (G : MarketAt g ps pk ms hs S) (hz : ∀ z ∈ ws, z.length ≤ sizeLine) (hw : S w = some (.lst (ws.map D.str))) (hb : hdBad ws = true ∨ (ws.length = 4 ∧ (hs.length = 6 ∨ ms = []))) (k : ∀ S', Keeps S S' → Q (.bl false) S') : runF sp_put_hand [.ref g, .ref w] S Q E T := by
  simp_arith! [sp_put_hand, m_put_hand]
  by_cases l4 : ws.length = 4
  · obtain ⟨w0, w1, a, b, rfl⟩ : ∃ w0 w1 a b, ws = [w0, w1, a, b] := by
      rcases ws with _ | ⟨w0, _ | ⟨w1, _ | ⟨a, _ | ⟨b, _ | ⟨c, r⟩⟩⟩⟩⟩ <;> first | (simp at l4; done) | exact ⟨_, _, _, _, rfl⟩
    simp only [List.map_cons, List.map_nil] at hw
    have n4 : decide (((4 : Nat) : Int) = 4) = true := by decide
    by_cases h6 : hs.length = 6
    · have ln : decide ((((poD hs).length : Nat) : Int) = 6) = true := by
        unfold poD
        rw [List.length_map]
        exact decide_eq_true (by omega)
      simp_arith [hw, n4, Bool.not_true, G.ins, flds1, flds2, G.poc, ln, Option.map_some]
      exact k _ Upd.refl
    have ln : decide ((((poD hs).length : Nat) : Int) = 6) = false := by
      unfold poD
      rw [List.length_map]
      exact decide_eq_false (by omega)
    simp_arith [hw, n4, Bool.not_true, G.ins, flds1, flds2, G.poc, ln, Option.map_some]
    intro z hz2
    have K1 : Keeps S (put S z (.dic [])) := Upd.new hz2
    have G1 := G.keep K1
    have gz : put S z (.dic []) z = some (.dic []) := put_same
    have w1' := K1 _ _ (by simp) hw
    generalize put S z (.dic []) = S1 at *
    by_cases m0 : ms = []
    · have e0 : eqDic (stD ms) [] = some true := by rw [m0]; rfl
      simp_arith [G1.sta, gz, e0]
      exact k _ K1
    have sne : stD ms ≠ [] := by
      unfold stD
      exact fun z => m0 (List.map_eq_nil_iff.mp z)
    have at2 : atI ([.str w0, .str w1, .str a, .str b] : List D) 2 = some (.str a) := rfl
    have at3 : atI ([.str w0, .str w1, .str a, .str b] : List D) 3 = some (.str b) := rfl
    have hb1 : hdBad [w0, w1, a, b] = true := by
      rcases hb with h | ⟨_, h | h⟩
      · exact h
      · exact absurd h h6
      · exact absurd h m0
    simp_arith [G1.sta, gz, eqDic_no sne, w1', at2]
    refine number_in_gen (hz a (by simp)) fun S2 K2 => ?_
    have w2 := K2 _ _ (by simp) w1'
    simp_arith [w2, at3]
    refine number_in_gen (hz b (by simp)) fun S3 K3 => ?_
    have KK := (K1.trans K2).trans K3
    have fn : flatD .non = true := rfl
    have fl : ([opD (numO a), opD (numO b)] : List D).all flatD = true := by simp [opD_flat]
    have an : ([opD (numO a), opD (numO b)] : List D).any (fun d => eqF d .non) = ((numO a).isNone || (numO b).isNone) := by simp [opD_non]
    have l2 : (0 + 1 + 1 ≤ sizeLine) = True := eq_true (by decide)
    simp_arith [fl, an, fn, l2]
    have kk := k _ KK
    dsimp only [hdBad] at hb1
    cases ea : numO a with
    | none => first | exact kk | exact ⟨trivial, kk⟩
    | some i =>
      cases eb : numO b with
      | none => first | exact kk | exact ⟨trivial, kk⟩
      | some j =>
        rw [ea, eb] at hb1
        have hb2 : decide (1000000000000 < List.foldl max i [j]) = true := hb1
        have io : intsOf [.int j] = some [j] := rfl
        have e1 : ((Option.isNone (some i)) || Option.isNone (some j)) = false := rfl
        simp_arith [e1, opD, io, hb2]
        first | exact kk | exact ⟨by decide, kk⟩ | exact ⟨trivial, by decide, kk⟩
  · have n4 : decide (((ws.length : Nat) : Int) = 4) = false := decide_eq_false (by omega)
    simp_arith [hw, List.length_map, n4, Bool.not_false]
    exact k _ Upd.refl
def nameB (z : Str) : Bool := (decide ((1 : Int) ≤ (z.length : Nat)) && decide (((z.length : Nat) : Int) ≤ 8)) && allIn z "abcdefghijklmnopqrstuvwxyz"
theorem is_name_gen {z : Str} {S : Sto} {Q : NQ} {E} {T : TgQ Q E} (hl : z.length ≤ sizeLine) (k : ∀ S', Keeps S S' → Q (.bl (nameB z)) S') : runF sp_is_name [.str z] S Q E T := by
  simp_arith! [sp_is_name, m_is_name]
  unfold nameB at k
  cases c1 : decide ((1 : Int) ≤ (z.length : Nat)) with
  | false =>
    rw [c1] at k
    simp_arith [hl, if_pos, c1]
    exact k _ Upd.refl
  | true =>
    cases c2 : decide (((z.length : Nat) : Int) ≤ 8) with
    | false =>
      rw [c1, c2] at k
      simp_arith [hl, if_pos, c1, c2]
      exact k _ Upd.refl
    | true =>
      rw [c1, c2, Bool.true_and, Bool.true_and] at k
      simp_arith [hl, if_pos, c1, c2]
      intro p hp
      refine runC_pure (inF "abcdefghijklmnopqrstuvwxyz") (fun _ => trivial) (by unfold signsD; rw [List.length_map, Array.length_toList]; exact hl) ?_ ?_
      · intro x hx l Y N hY
        unfold signsD at hx
        obtain ⟨c, _, rfl⟩ := List.mem_map.mp hx
        simp_arith []
        exact ⟨rfl, hY⟩
      rw [inF_signs]
      simp_arith [put_same]
      rw [blsM]
      dsimp only
      rw [all_id]
      exact k _ (Upd.new hp)
/-- words that write nothing, wherever they stand -/
def rowBad : List Str → Bool
  | w0 :: w1 :: r => !nameB w1 || (if w0 = "maker" then mkBad (w0 :: w1 :: r) else if w0 = "hand" then hdBad (w0 :: w1 :: r) else true)
  | _ => true
theorem is_put_bad {g ps pk w : Addr} {ms : List Mkr} {hs : List Hnd} {ws : List Str} {S : Sto} {Q : NQ} {E} {T : TgQ Q E} (G : MarketAt g ps pk ms hs S) (hz : ∀ z ∈ ws, z.length ≤ sizeLine) (hw : S w = some (.lst (ws.map D.str))) (hb : rowBad ws = true) (k : ∀ S', Keeps S S' → Q (.bl false) S') : runF sp_is_put [.ref g, .ref w] S Q E T := by
  simp_arith! [sp_is_put, m_is_put]
  by_cases l2 : ws.length < 2
  · have d2 : decide (((ws.length : Nat) : Int) < 2) = true := decide_eq_true (by omega)
    simp_arith [hw, List.length_map, d2]
    exact k _ Upd.refl
  obtain ⟨w0, w1, r, rfl⟩ : ∃ w0 w1 r, ws = w0 :: w1 :: r := by
    rcases ws with _ | ⟨w0, _ | ⟨w1, r⟩⟩
    · simp at l2
    · simp at l2
    · exact ⟨_, _, _, rfl⟩
  have d2 : decide (((r.length + 1 + 1 : Nat) : Int) < 2) = false := decide_eq_false (by omega)
  simp only [List.map_cons] at hw
  simp_arith [hw, List.length_map, d2, atI_1]
  refine is_name_gen (hz w1 (by simp)) fun S1 K1 => ?_
  have G1 := G.keep K1
  have hw1 := K1 _ _ (by simp) hw
  have kk := fun S' (K : Keeps S1 S') => k S' (K1.trans K)
  dsimp only [rowBad] at hb
  cases nb : nameB w1 with
  | false =>
    simp_arith [Bool.not_false]
    exact kk _ Upd.refl
  | true =>
    rw [nb, Bool.not_true, Bool.false_or] at hb
    simp_arith [Bool.not_true, hw1, atI_1, G1.ins, flds1, flds2, G1.sta]
    cases i1 : (dget (stD ms) (.inr w1)).isSome with
    | true => exact kk _ Upd.refl
    | false =>
      simp_arith [hw1, atI_1, G1.ins, flds1, flds2, G1.poc]
      cases i2 : (dget (poD hs) (.inr w1)).isSome with
      | true => exact kk _ Upd.refl
      | false =>
        by_cases h0 : w0 = "maker"
        · rw [if_pos h0] at hb
          have e0 := decide_eq_true h0
          simp_arith [hw1, atI_0, e0]
          exact put_maker_bad hz (show S1 w = some (.lst ((w0 :: w1 :: r).map D.str)) from hw1) hb kk
        · rw [if_neg h0] at hb
          have e0 := decide_eq_false h0
          by_cases h3 : w0 = "hand"
          · rw [if_pos h3] at hb
            have e3 := decide_eq_true h3
            simp_arith [hw1, atI_0, e0, e3]
            exact put_hand_bad G1 hz (show S1 w = some (.lst ((w0 :: w1 :: r).map D.str)) from hw1) (.inl hb) kk
          · have e3 := decide_eq_false h3
            simp_arith [hw1, atI_0, e0, e3]
            exact kk _ Upd.refl
/-- a name that is there -/
theorem is_put_dup {g ps pk w : Addr} {ms : List Mkr} {hs : List Hnd} {w0 w1 : Str} {r : List Str} {S : Sto} {Q : NQ} {E} {T : TgQ Q E} (G : MarketAt g ps pk ms hs S) (no : NameOk w1) (hw : S w = some (.lst ((w0 :: w1 :: r).map D.str))) (hd : (dget (stD ms) (.inr w1)).isSome = true ∨ (dget (poD hs) (.inr w1)).isSome = true) (k : ∀ S', Keeps S S' → Q (.bl false) S') : runF sp_is_put [.ref g, .ref w] S Q E T := by
  simp_arith! [sp_is_put, m_is_put]
  have d2 : decide (((r.length + 1 + 1 : Nat) : Int) < 2) = false := decide_eq_false (by omega)
  simp only [List.map_cons] at hw
  simp_arith [hw, List.length_map, d2, atI_1]
  refine is_name_yes no fun S1 K1 => ?_
  have G1 := G.keep K1
  have hw1 := K1 _ _ (by simp) hw
  have kk := fun S' (K : Keeps S1 S') => k S' (K1.trans K)
  simp_arith [Bool.not_true, hw1, atI_1, G1.ins, flds1, flds2, G1.sta]
  cases i1 : (dget (stD ms) (.inr w1)).isSome with
  | true => exact kk _ Upd.refl
  | false =>
    have i2 := hd.resolve_left (by rw [i1]; simp)
    simp_arith [hw1, atI_1, G1.ins, flds1, flds2, G1.poc, i2]
    exact kk _ Upd.refl
/-- a good maker's row, out of place -/
theorem is_put_full {g ps pk w : Addr} {ms : List Mkr} {hs : List Hnd} {nm : Str} {m : Mk} {S : Sto} {Q : NQ} {E} {T : TgQ Q E} (G : MarketAt g ps pk ms hs S) (no : NameOk nm) (o : m.Ok) (hl : ms.length = 6 ∨ hs ≠ []) (hw : S w = some (.lst ((mwords nm m).map D.str))) (k : ∀ S', Keeps S S' → Q (.bl false) S') : runF sp_is_put [.ref g, .ref w] S Q E T := by
  simp_arith! [sp_is_put, m_is_put]
  have l2 : decide (((((mwords nm m).map D.str).length : Nat) : Int) < 2) = false := by
    unfold mwords
    simp only [List.map_cons, List.length_cons]
    exact decide_eq_false (by omega)
  have at0 : atI ((mwords nm m).map D.str) 0 = some (.str "maker") := by
    unfold mwords
    exact atI_0 _ _
  have at1 : atI ((mwords nm m).map D.str) 1 = some (.str nm) := by
    unfold mwords
    exact atI_1 _ _ _
  simp_arith [hw, l2, at1]
  refine is_name_yes no fun S1 K1 => ?_
  have G1 := G.keep K1
  have w1 := K1 _ _ (by simp) hw
  have kk := fun S' (K : Keeps S1 S') => k S' (K1.trans K)
  simp_arith [Bool.not_true, w1, at1, G1.ins, flds1, flds2, G1.sta]
  cases i1 : (dget (stD ms) (.inr nm)).isSome with
  | true => exact kk _ Upd.refl
  | false =>
    simp_arith [w1, at1, at0, G1.ins, flds1, flds2, G1.poc]
    cases i2 : (dget (poD hs) (.inr nm)).isSome with
    | true => exact kk _ Upd.refl
    | false =>
      simp_arith [w1, at0, decide_true]
      exact put_maker_full G1 o hl w1 kk
/-- a good hand's row, out of place -/
theorem is_put_fullh {g ps pk w : Addr} {ms : List Mkr} {hs : List Hnd} {h : Hnd} {S : Sto} {Q : NQ} {E} {T : TgQ Q E} (G : MarketAt g ps pk ms hs S) (no : NameOk h.nm) (hz : ∀ z ∈ hwords h, z.length ≤ sizeLine) (hl : hs.length = 6 ∨ ms = []) (hw : S w = some (.lst ((hwords h).map D.str))) (k : ∀ S', Keeps S S' → Q (.bl false) S') : runF sp_is_put [.ref g, .ref w] S Q E T := by
  simp_arith! [sp_is_put, m_is_put]
  have hw' : S w = some (.lst [.str "hand", .str h.nm, .str (shI h.a), .str (shI h.b)]) := hw
  have l2 : decide (((4 : Nat) : Int) < 2) = false := by decide
  have at0 : atI ([.str "hand", .str h.nm, .str (shI h.a), .str (shI h.b)] : List D) 0 = some (.str "hand") := rfl
  have at1 : atI ([.str "hand", .str h.nm, .str (shI h.a), .str (shI h.b)] : List D) 1 = some (.str h.nm) := rfl
  simp_arith [hw', l2, at1]
  refine is_name_yes no fun S1 K1 => ?_
  have G1 := G.keep K1
  have w1 := K1 _ _ (by simp) hw'
  have n1 : ("hand" = "maker") = False := by decide
  have kk := fun S' (K : Keeps S1 S') => k S' (K1.trans K)
  simp_arith [Bool.not_true, w1, at1, G1.ins, flds1, flds2, G1.sta]
  cases i1 : (dget (stD ms) (.inr h.nm)).isSome with
  | true => exact kk _ Upd.refl
  | false =>
    simp_arith [w1, at1, at0, G1.ins, flds1, flds2, G1.poc]
    cases i2 : (dget (poD hs) (.inr h.nm)).isSome with
    | true => exact kk _ Upd.refl
    | false =>
      simp_arith [w1, at0, ofString_inj, n1, decide_false, decide_true]
      exact put_hand_bad G1 hz (show S1 w = some (.lst ((hwords h).map D.str)) from w1) (.inr ⟨rfl, hl⟩) kk

/-! ### a text with a wrong row -/
structure MPre (ms : List (Str × Mk)) (hs : List Hnd) : Prop where
  h0 : hs ≠ [] → ms ≠ []
  m6 : ms.length ≤ 6
  h6 : hs.length ≤ 6
  mo : ∀ x ∈ ms, x.2.Ok ∧ NameOk x.1
  ho : ∀ h ∈ hs, h.Ok ∧ NameOk h.nm
  nd : (ms.map (·.1) ++ hs.map (·.nm)).Nodup
theorem MPre.rows {ms : List (Str × Mk)} {hs : List Hnd} (T : MPre ms hs) : ∀ r ∈ ms.map rowM ++ hs.map rowH, 10 ∉ TL.tl r ∧ r.length ≤ 400 := by
  intro r hr
  rcases List.mem_append.mp hr with hr | hr
  · obtain ⟨x, hx, rfl⟩ := List.mem_map.mp hr
    obtain ⟨o, no⟩ := T.mo x hx
    obtain ⟨w1, w2, w3⟩ := mwords_ok no o
    exact ⟨jo_nl w1, jo_len w1 w3⟩
  · obtain ⟨x, hx, rfl⟩ := List.mem_map.mp hr
    obtain ⟨o, no⟩ := T.ho x hx
    obtain ⟨w1, w2, w3⟩ := hwords_ok no o
    exact ⟨jo_nl w1, jo_len w1 w3⟩
theorem li_len2 {rs : List Str} {n : Nat} (h : ∀ w ∈ rs, w.length ≤ 400) (l : rs.length ≤ n) : (li rs).length ≤ n * 401 := by
  rw [TL.len_tl]
  unfold li
  rw [TL.join_eq, TL.tl_join, tl_nl]
  have := len_joinL (S := [10]) (n := 400) (by simp) (ps := rs.map TL.tl) fun p hp => by
    obtain ⟨w, hw, rfl⟩ := List.mem_map.mp hp
    rw [← TL.len_tl]; exact h w hw
  rw [List.length_map] at this
  have := Nat.mul_le_mul_right 401 l
  omega
/-- a row that is put nowhere in that market -/
def NoPut (ms : List (Str × Mk)) (hs : List Hnd) (bad : Str) : Prop := ∀ (g ps pk w : Addr) (rs : List Mkr) (S : Sto) (Q : NQ) (E : Str → Option Addr → Sto → Prop) (T : TgQ Q E), rs.map Mkr.two = ms → MarketAt g ps pk rs hs S → S w = some (.lst ((splS 32 bad).map D.str)) → (∀ S', Keeps S S' → Q (.bl false) S') → runF sp_is_put [.ref g, .ref w] S Q E T
theorem read_bad {ms : List (Str × Mk)} {hs : List Hnd} {bad : Str} {rest : List Str} {S0 : Sto} {Q : NQ} {E} {T : TgQ Q E} (X : MPre ms hs) (hr : ∀ r ∈ bad :: rest, 10 ∉ TL.tl r ∧ r.length ≤ 400) (lr : rest.length ≤ 20) (hb : NoPut ms hs bad)
    (k : ∀ d S', S0 d = Option.none → S' d = some (.xd [("line", .int ((ms.length + hs.length + 1 : Nat) : Int))]) → Keeps S0 S' → E "NoText" (some d) S') : runF sp_read [.str (li (ms.map rowM ++ (hs.map rowH ++ bad :: rest)))] S0 Q E T := by
  simp_arith! [sp_read, m_read]
  have sl : (20000 : Nat) ≤ sizeLine := by decide
  have rows : ∀ r ∈ ms.map rowM ++ (hs.map rowH ++ bad :: rest), 10 ∉ TL.tl r ∧ r.length ≤ 400 := by
    intro r h
    rw [← List.append_assoc] at h
    rcases List.mem_append.mp h with h | h
    · exact X.rows r h
    · exact hr r h
  have ln := li_len2 (n := 33) (fun w hw => (rows w hw).2) (by
    have := X.m6; have := X.h6
    simp only [List.length_append, List.length_map, List.length_cons]; omega)
  have xsplit : Txt.split (li (ms.map rowM ++ (hs.map rowH ++ bad :: rest))) (Str.ofString "\n") = ms.map rowM ++ (hs.map rowH ++ bad :: rest) := split_li (by simp) fun w hw => (rows w hw).1
  have e1 : ((Str.ofString "\n").length == 0) = false := by decide
  generalize hZ : li (ms.map rowM ++ (hs.map rowH ++ bad :: rest)) = Z at *
  have ls : Z.length + 2 ≤ sizeLine := by omega
  simp_arith [isi_str_str, Bool.not_true]
  intro g hg
  refine market_init put_same fun ps pk S1 G1 hps hpk u1 => ?_
  refine ⟨rfl, ?_⟩
  have kp1 : Keeps S0 S1 := keeps_of ((Upd.at (by simp)).trans u1) hg
  have nps : S0 ps = Option.none := (Upd.at (A := [g]) (o := .ins "Market" []) (by simp)).fresh' hps (by
    simp only [List.mem_cons, List.not_mem_nil, or_false]
    intro z
    rw [z, put_same] at hps
    cases hps)
  have npk : S0 pk = Option.none := (Upd.at (A := [g]) (o := .ins "Market" []) (by simp)).fresh' hpk (by
    simp only [List.mem_cons, List.not_mem_nil, or_false]
    intro z
    rw [z, put_same] at hpk
    cases hpk)
  simp_arith [e1, ls, xsplit]
  intro pl hpl
  have K2 : Keeps S1 (put S1 pl (.lst ((ms.map rowM ++ (hs.map rowH ++ bad :: rest)).map D.str))) := Upd.new hpl
  have G2 := G1.keep K2
  have g2 : put S1 pl (.lst ((ms.map rowM ++ (hs.map rowH ++ bad :: rest)).map D.str)) pl = some (.lst ((ms.map rowM ++ (hs.map rowH ++ bad :: rest)).map D.str)) := put_same
  have kp2 : Keeps S0 (put S1 pl (.lst ((ms.map rowM ++ (hs.map rowH ++ bad :: rest)).map D.str))) := kp1.trans K2
  generalize put S1 pl (.lst ((ms.map rowM ++ (hs.map rowH ++ bad :: rest)).map D.str)) = S2 at *
  simp_arith [g2]
  have e3 : ((Str.ofString " ").length == 0) = false := by decide
  have plm : pl ∉ [ps, pk] := by
    simp only [List.mem_cons, List.not_mem_nil, or_false, not_or]
    exact ⟨fun z => (by rw [z, G2.sta] at g2; cases g2), fun z => (by rw [z, G2.poc] at g2; cases g2)⟩
  have kS : ∀ {S}, Upd [ps, pk] S2 S → Keeps S0 S := fun u => upd_drop0 ((Keeps.up kp2).trans u) (fun p hp => by
    simp only [List.mem_cons, List.not_mem_nil, or_false] at hp
    rcases hp with rfl | rfl
    · exact nps
    · exact npk)
  refine runL_invL (fun xs e S => (∃ x2 x3, e = [some (.str Z), some (.ref g), x2, x3]) ∧ S pl = some (.lst ((ms.map rowM ++ (hs.map rowH ++ bad :: rest)).map D.str)) ∧ Upd [ps, pk] S2 S ∧ ∃ (i : Nat) (rm : List (Str × Mk)) (rh : List Hnd) (done : List Mkr) (dh : List Hnd), xs = enumD ((rm.map rowM ++ (rh.map rowH ++ bad :: rest)).map D.str) i ∧ i = done.length + dh.length ∧ done.map Mkr.two ++ rm = ms ∧ dh ++ rh = hs ∧ (rm ≠ [] → dh = []) ∧ MarketAt g ps pk done dh S)
    (fun xs e S h => h.2.1) (fun e S h => ?_) (fun x xs e S C h hC => ?_) ?_
  · obtain ⟨⟨x2, x3, rfl⟩, hp, u, i, rm, rh, done, dh, ex, ei, em, eh, -, G⟩ := h
    cases rm with
    | cons y r => simp [enumD] at ex
    | nil =>
      cases rh with
      | cons y r => simp [enumD] at ex
      | nil => simp [enumD] at ex
  · obtain ⟨⟨x2, x3, rfl⟩, hp, u, i, rm, rh, done, dh, ex, ei, em, eh, hd, G⟩ := h
    cases rm with
    | cons y rm =>
      have d0 := hd (by simp)
      subst d0
      simp only [List.map_cons, List.cons_append, enumD] at ex
      obtain ⟨rfl, rfl⟩ := List.cons.inj ex
      have ym : y ∈ ms := by rw [← em]; simp
      obtain ⟨o, no⟩ := X.mo y ym
      obtain ⟨w1, w2, w3⟩ := mwords_ok no o
      have lr := jo_len w1 w3
      have lr' : (rowM y).length + 2 ≤ sizeLine := by unfold rowM; omega
      have sp : Txt.split (rowM y) (Str.ofString " ") = mwords y.1 y.2 := split_jo w2 w1
      have dl : done.length < 6 := by
        have := X.m6
        rw [← em] at this
        simp at this
        omega
      have dn : ∀ r ∈ done, r.nm ≠ y.1 := by
        intro r hr z
        have nd := X.nd
        rw [← em, List.map_append, List.append_assoc, List.nodup_append] at nd
        have q := nd.2.2 r.nm (List.mem_map.mpr ⟨r.two, List.mem_map.mpr ⟨r, hr, rfl⟩, rfl⟩) y.1 (by simp)
        exact q z
      simp_arith [e3, lr', sp]
      intro w hw
      have K3 : Keeps S (put S w (.lst ((mwords y.1 y.2).map D.str))) := Upd.new hw
      have gw : put S w (.lst ((mwords y.1 y.2).map D.str)) w = some (.lst ((mwords y.1 y.2).map D.str)) := put_same
      have hp3 := K3 _ _ (by simp) hp
      have G3 := G.keep K3
      generalize put S w (.lst ((mwords y.1 y.2).map D.str)) = S3 at *
      refine is_put_maker G3 o no dl dn gw fun p q S4 hp4 hq4 G4 u4 => ?_
      simp_arith [Bool.not_true]
      refine hC _ _ ⟨⟨_, _, rfl⟩, u4 _ _ (fun z => plm (by simp at z ⊢; exact .inl z)) hp3, (u.trans K3.up).trans (u4.mono (by simp)), i + 1, rm, rh, done ++ [⟨y.1, y.2, p, q⟩], [], rfl, ?_, ?_, eh, fun _ => rfl, G4⟩
      · rw [ei, List.length_append]; simp
      · rw [← em, List.map_append, List.append_assoc]
        rfl
    | nil =>
      cases rh with
      | nil =>
        simp only [List.map_nil, List.nil_append, List.map_cons, enumD] at ex
        obtain ⟨rfl, rfl⟩ := List.cons.inj ex
        rw [List.append_nil] at em eh
        subst eh
        have lb := (hr bad (by simp)).2
        have lb' : bad.length + 2 ≤ sizeLine := by omega
        have sp := split_sp bad
        simp_arith [e3, lb', sp]
        intro w hw
        have K3 : Keeps S (put S w (.lst ((splS 32 bad).map D.str))) := Upd.new hw
        have gw : put S w (.lst ((splS 32 bad).map D.str)) w = some (.lst ((splS 32 bad).map D.str)) := put_same
        have G3 := G.keep K3
        generalize put S w (.lst ((splS 32 bad).map D.str)) = S3 at *
        refine hb g ps pk w done S3 _ _ _ em G3 gw fun S4 K4 => ?_
        simp_arith [Bool.not_false]
        intro d hd4
        have kk : Keeps S0 S4 := kS ((u.trans K3.up).trans K4.up)
        refine k d _ (kk.fresh' hd4 (by simp)) ?_ (kk.trans (Upd.new hd4))
        rw [put_same]
        have : (i : Int) + 1 = ((ms.length + dh.length + 1 : Nat) : Int) := by
          rw [ei, ← em, List.length_map]; omega
        rw [this]
      | cons y rh =>
        simp only [List.map_nil, List.nil_append, List.map_cons, List.cons_append, enumD] at ex
        obtain ⟨rfl, rfl⟩ := List.cons.inj ex
        rw [List.append_nil] at em
        have ym : y ∈ hs := by rw [← eh]; simp
        obtain ⟨o, no⟩ := X.ho y ym
        obtain ⟨w1, w2, w3⟩ := hwords_ok no o
        have lr := jo_len w1 w3
        have lr' : (rowH y).length + 2 ≤ sizeLine := by unfold rowH; omega
        have sp : Txt.split (rowH y) (Str.ofString " ") = hwords y := split_jo w2 w1
        have dl : dh.length < 6 := by
          have := X.h6
          rw [← eh] at this
          simp at this
          omega
        have nd := X.nd
        rw [← em, ← eh, List.map_append, List.nodup_append] at nd
        have dn : ∀ r ∈ dh, r.nm ≠ y.nm := by
          intro r hr z
          have q := nd.2.1
          rw [List.nodup_append] at q
          exact q.2.2 r.nm (List.mem_map.mpr ⟨r, hr, rfl⟩) y.nm (by simp) z
        have dn2 : ∀ r ∈ done, r.nm ≠ y.nm := by
          intro r hr z
          exact nd.2.2 r.nm (List.mem_map.mpr ⟨r.two, List.mem_map.mpr ⟨r, hr, rfl⟩, rfl⟩) y.nm (by simp) z
        have d0 : done ≠ [] := by
          intro z
          rw [z] at em
          exact X.h0 (by rw [← eh]; simp) em.symm
        simp_arith [e3, lr', sp]
        intro w hw
        have K3 : Keeps S (put S w (.lst ((hwords y).map D.str))) := Upd.new hw
        have gw : put S w (.lst ((hwords y).map D.str)) w = some (.lst ((hwords y).map D.str)) := put_same
        have hp3 := K3 _ _ (by simp) hp
        have G3 := G.keep K3
        generalize put S w (.lst ((hwords y).map D.str)) = S3 at *
        refine is_put_hand G3 o no dl d0 dn dn2 gw fun S4 G4 u4 => ?_
        simp_arith [Bool.not_true]
        refine hC _ _ ⟨⟨_, _, rfl⟩, u4 _ _ (fun z => plm (by simp at z ⊢; exact .inr z)) hp3, (u.trans K3.up).trans (u4.mono (by simp)), i + 1, [], rh, done, dh ++ [y], rfl, by rw [ei, List.length_append]; simp [Nat.add_assoc], by rw [List.append_nil]; exact em, by rw [← eh, List.append_assoc]; rfl, fun z => absurd rfl z, G4⟩
  · exact ⟨⟨_, _, rfl⟩, g2, Upd.refl, 0, ms, hs, [], [], rfl, rfl, rfl, rfl, fun _ => rfl, G2⟩
/-- what is no text -/
theorem read_none {d : D} {S0 : Sto} {Q : NQ} {E} {T : TgQ Q E} (h : Kn S0 d) (n : isS d = false) (k : ∀ a S', S0 a = Option.none → S' a = some (.xd [("line", .int 0)]) → Keeps S0 S' → E "NoText" (some a) S') : runF sp_read [d] S0 Q E T := by
  simp_arith! [sp_read, m_read]
  simp_arith [kn_str h, n, Bool.not_false]
  intro a ha
  exact k a _ ha put_same (Upd.new ha)

/-! ### what is read, what isn't -/
theorem line_at {v : D} : List.lookup ("line" : Str) ([("line", v)] : List (Str × D)) = some v := by simp [List.lookup]
theorem said_no {d : D} {n : Int} {S : Sto} {Q : NQ} {E} {T : TgQ Q E} (hread : ∀ (Q : NQ) (E : Str → Option Addr → Sto → Prop) (T : TgQ Q E), (∀ a S', S a = Option.none → S' a = some (.xd [("line", .int n)]) → Keeps S S' → E "NoText" (some a) S') → runF sp_read [d] S Q E T) (k : ∀ S', Keeps S S' → Q (.tup [.str "text", .int n]) S') : runF sp__law_said [d] S Q E T := by
  have cm : catchOf CL "NoText" "MartError" = some true := by decide
  have wt : wordOf "NoText" = "text" := by decide
  simp_arith! [sp__law_said, m__law_said]
  simp_arith []
  refine hread _ _ _ fun a S1 ha ga K1 => ?_
  rw [cm]
  dsimp only
  refine ⟨by decide, fun x hx => ?_⟩
  have K2 : Keeps S1 (put S1 x (.exc "NoText" (some a))) := Upd.new hx
  have gx : put S1 x (.exc "NoText" (some a)) x = some (.exc "NoText" (some a)) := put_same
  have ga2 := K2 _ _ (by simp) ga
  generalize put S1 x (.exc "NoText" (some a)) = S2 at *
  simp_arith []
  refine word_ok (.inr ⟨a, _, gx, ga2⟩) (by decide) fun S3 K3 => ?_
  have gx3 := K3 _ _ (by simp) gx
  have ga3 := K3 _ _ (by simp) ga2
  rw [wt]
  simp_arith [decide_true, gx3, ga3, line_at, isi_int_bool, Bool.not_false]
  exact k _ ((K1.trans K2).trans K3)
theorem said_ok {ms : List (Str × Mk)} {hs : List Hnd} {S : Sto} {Q : NQ} {E} {T : TgQ Q E} (X : MTxt ms hs) (k : ∀ S', Keeps S S' → Q (.tup [.str "", .str (mtext ms hs)]) S') : runF sp__law_said [.str (mtext ms hs)] S Q E T := by
  simp_arith! [sp__law_said, m__law_said]
  simp_arith []
  refine read_ok X fun g ps pk rs S1 er G hg hps hpk hfr K1 => ?_
  simp_arith [G.ins, mfl_no (f := "text") (by decide), mtm_text]
  refine text_ok G (er ▸ X) fun S2 K2 => ?_
  rw [er]
  simp_arith []
  exact k _ (K1.trans K2)
/-- a row that stands nowhere -/
structure Wrong (w : Str) : Prop where
  bad : rowBad (splS 32 w) = true
  nl : 10 ∉ TL.tl w
  len : w.length ≤ 400
def wrB (w : Str) : Bool := rowBad (splS 32 w) && (!(TL.tl w).contains 10 && decide (w.length ≤ 400))
theorem wrong_of {w : Str} (h : wrB w = true) : Wrong w := by
  unfold wrB at h
  simp only [Bool.and_eq_true, Bool.not_eq_true', decide_eq_true_eq, List.contains_eq_mem, decide_eq_false_iff_not] at h
  exact ⟨h.1, h.2.1, h.2.2⟩
theorem Wrong.no {w : Str} (h : Wrong w) (ms : List (Str × Mk)) (hs : List Hnd) : NoPut ms hs w := fun g ps pk a rs S Q E T _ G hw k => by
  have sl : (10000 : Nat) ≤ sizeLine := by decide
  have hl := h.len
  exact is_put_bad G (fun z hz => by have := splS_len.2 z hz; omega) hw h.bad k
theorem MTxt.pre {ms : List (Str × Mk)} {hs : List Hnd} (X : MTxt ms hs) : MPre ms hs := ⟨fun _ => X.m0, X.m6, X.h6, X.mo, X.ho, X.nd⟩
theorem said_row {ms : List (Str × Mk)} {hs : List Hnd} {bad : Str} {rest : List Str} {S : Sto} {Q : NQ} {E} {T : TgQ Q E} (X : MPre ms hs) (hr : ∀ r ∈ bad :: rest, 10 ∉ TL.tl r ∧ r.length ≤ 400) (lr : rest.length ≤ 20) (hb : NoPut ms hs bad)
    (k : ∀ S', Keeps S S' → Q (.tup [.str "text", .int ((ms.length + hs.length + 1 : Nat) : Int)]) S') : runF sp__law_said [.str (li (ms.map rowM ++ (hs.map rowH ++ bad :: rest)))] S Q E T :=
  said_no (fun Q E T kk => read_bad X hr lr hb kk) k
theorem MTxt.cutM {ms : List (Str × Mk)} {hs : List Hnd} (X : MTxt ms hs) (f : Nat) : MPre (ms.take f) [] := by
  refine ⟨fun z => absurd rfl z, ?_, by simp, fun x hx => X.mo x (List.mem_of_mem_take hx), (fun h hh => by cases hh), ?_⟩
  · have := X.m6
    rw [List.length_take]; omega
  · have := X.nd
    rw [List.nodup_append] at this
    rw [List.map_nil, List.append_nil, List.map_take]
    exact (List.take_sublist _ _).nodup this.1
theorem MTxt.cutH {ms : List (Str × Mk)} {hs : List Hnd} (X : MTxt ms hs) (f : Nat) : MPre ms (hs.take f) := by
  refine ⟨fun _ => X.m0, X.m6, ?_, X.mo, fun x hx => X.ho x (List.mem_of_mem_take hx), ?_⟩
  · have := X.h6
    rw [List.length_take]; omega
  · rw [List.map_take]
    exact ((List.Sublist.refl _).append (List.take_sublist _ _)).nodup X.nd
/-- good rows, then a wrong one, then any -/
theorem said_cut {ms : List (Str × Mk)} {hs : List Hnd} {bad : Str} {rest : List Str} {f : Nat} {S : Sto} {Q : NQ} {E} {T : TgQ Q E} (X : MTxt ms hs) (hf : f ≤ ms.length + hs.length) (wb : Wrong bad) (hr : ∀ r ∈ rest, 10 ∉ TL.tl r ∧ r.length ≤ 400) (lr : rest.length ≤ 20)
    (k : ∀ S', Keeps S S' → Q (.tup [.str "text", .int ((f : Nat) + 1 : Int)]) S') : runF sp__law_said [.str (li ((ms.map rowM ++ hs.map rowH).take f ++ bad :: rest))] S Q E T := by
  have hr2 : ∀ r ∈ bad :: rest, 10 ∉ TL.tl r ∧ r.length ≤ 400 := fun r h => by
    rcases List.mem_cons.mp h with rfl | h
    · exact ⟨wb.nl, wb.len⟩
    · exact hr r h
  by_cases c : f ≤ ms.length
  · have e : (ms.map rowM ++ hs.map rowH).take f ++ bad :: rest = (ms.take f).map rowM ++ (([] : List Hnd).map rowH ++ bad :: rest) := by
      rw [List.take_append_of_le_length (by rw [List.length_map]; exact c), List.map_take]; rfl
    rw [e]
    refine said_row (X.cutM f) hr2 lr (wb.no _ _) fun S' K => ?_
    have := k S' K
    have e2 : (((ms.take f).length + ([] : List Hnd).length + 1 : Nat) : Int) = (f : Nat) + 1 := by
      rw [List.length_take, List.length_nil]; omega
    rw [e2]; exact this
  · have e : (ms.map rowM ++ hs.map rowH).take f ++ bad :: rest = ms.map rowM ++ ((hs.take (f - ms.length)).map rowH ++ bad :: rest) := by
      rw [List.take_append, List.length_map, List.take_of_length_le (by rw [List.length_map]; omega), List.map_take, List.append_assoc]
    rw [e]
    refine said_row (X.cutH (f - ms.length)) hr2 lr (wb.no _ _) fun S' K => ?_
    have := k S' K
    have e2 : ((ms.length + (hs.take (f - ms.length)).length + 1 : Nat) : Int) = (f : Nat) + 1 := by
      rw [List.length_take]; omega
    rw [e2]; exact this

/-! ### the law's wrong rows -/
theorem tlA (a b : Str) : (a ++ b).length = a.length + b.length := by rw [TL.len_tl, TL.tl_append, List.length_append, ← TL.len_tl, ← TL.len_tl]
/-- a loop that appends a wrong row for each word -/
theorem wrong_loop {g : NG} {b : NS} {Z : NEnds} {kp : Keep} {xs : List Str} {e : N.Env} {S : Sto} {T : TgZ g b Z} {p : Addr} (S0 : Sto) (I : N.Env → Prop) {ws : List Str} (i0 : I e) (u0 : Upd [p] S0 S) (hp : S p = some (.lst (ws.map D.str))) (hw : ∀ w ∈ ws, Wrong w) (hx : xs ≠ []) (f : Str → Str) (hf : ∀ x ∈ xs, Wrong (f x)) (hkp : ∀ S, Upd [p] S0 S → kp S)
    (step : ∀ x ∈ xs, ∀ e S (ws : List Str) (C : N.Env → Sto → Prop), I e → Upd [p] S0 S → S p = some (.lst (ws.map D.str)) → ws.length + xs.length ≤ 1000 → (∀ e2, I e2 → C e2 (put S p (.lst ((ws ++ [f x]).map D.str)))) → g (.str x) e S (b { Z with nx := C, ct := C, bk := Z.nx }))
    (done : ∀ e S (vs : List Str), I e → Upd [p] S0 S → S p = some (.lst (vs.map D.str)) → (∀ w ∈ vs, Wrong w) → vs.length = ws.length + xs.length → Z.nx e S) (hl : ws.length + 2 * xs.length ≤ 1000) : runL g b Z kp (xs.map D.str) e S T := by
  refine runL_invL (fun ys e S => ∃ (vs rs : List Str), ys = rs.map D.str ∧ I e ∧ Upd [p] S0 S ∧ S p = some (.lst (vs.map D.str)) ∧ (∀ w ∈ vs, Wrong w) ∧ vs.length + rs.length = ws.length + xs.length ∧ rs <:+ xs)
    (fun _ _ S h => by obtain ⟨_, _, _, _, u, _⟩ := h; exact hkp S u) (fun e S h => ?_) (fun x ys e S C h hC => ?_) ?_
  · obtain ⟨vs, rs, e1, i, u, g, w, l, _⟩ := h
    have : rs = [] := List.map_eq_nil_iff.mp e1.symm
    subst this
    exact done e S vs i u g w (by simpa using l)
  · obtain ⟨vs, rs, e1, i, u, g, w, l, sf⟩ := h
    cases rs with
    | nil => simp at e1
    | cons r rs =>
      rw [List.map_cons] at e1
      obtain ⟨rfl, rfl⟩ := List.cons.inj e1
      have rm : r ∈ xs := sf.subset (by simp)
      simp only [List.length_cons] at l
      refine step r rm e S vs _ i u g (by omega) fun e2 i2 => hC _ _ ⟨vs ++ [f r], rs, rfl, i2, u.trans (Upd.at (by simp)), put_same, fun w' h => ?_, by rw [List.length_append]; simp; omega, (List.suffix_cons r rs).trans sf⟩
      rcases List.mem_append.mp h with h | h
      · exact w w' h
      · rw [List.mem_singleton.mp h]; exact hf r rm
  · exact ⟨ws, xs, rfl, i0, u0, hp, hw, rfl, List.suffix_refl _⟩
def wP : Str := Str.ofString "maker zqzq product 5 5 0/1"
def wA : List Str := [Str.ofString "", Str.ofString " ", Str.ofString "maker", Str.ofString "hand", wP ++ Str.ofString " ", Str.ofString " " ++ wP, Txt.replace wP (Str.ofString " ") (Str.ofString "  "), wP ++ Str.ofString " 5"]
def wB : List Str := [wP ++ Str.ofString " 5 5", wP ++ Str.ofString "\t", Str.ofString "maker Zqzq product 5 5 0/1", Str.ofString "maker zqzq product 5 5"]
def wC : List Str := [Str.ofString "maker zqzqzqzqz product 5 5 0/1", Str.ofString "maker  product 5 5 0/1", Str.ofString "stall zqzq product 5 5 0/1"]
theorem wrongs {ws : List Str} (h : ws.all wrB = true) : ∀ w ∈ ws, Wrong w := fun w hw => wrong_of (List.all_eq_true.mp h w hw)
theorem wA_ok : wA.all wrB = true := by decide +kernel
theorem wB_ok : wB.all wrB = true := by decide +kernel
theorem wC_ok : wC.all wrB = true := by decide +kernel
def x1 : List Str := [Str.ofString "0 5", Str.ofString "5 0", Str.ofString "05 5", Str.ofString "-5 5", Str.ofString "+5 5", Str.ofString "5_0 5", Str.ofString "1000000000001 5", Str.ofString "10000000000000 5", Str.ofString "x 5"]
def x2 : List Str := [Str.ofString "1/9", Str.ofString "2/10", Str.ofString "0/0", Str.ofString "1/10001", Str.ofString "-1/10", Str.ofString "01/10", Str.ofString "1", Str.ofString "1/", Str.ofString "/10", Str.ofString "1/10/10", Str.ofString "1 /10", Str.ofString "a/10"]
def x3 : List Str := [Str.ofString "sum 5 5 0/1", Str.ofString "sum 5 5 0/1 0 1", Str.ofString "sum 5 5 0/1 1 1000001", Str.ofString "sum 5 5 0/1 1", Str.ofString "Product 5 5 0/1"]
def x4 : List Str := [Str.ofString "0 5 0/1 0 0", Str.ofString "5 0 0/1 5 0", Str.ofString "5 5 0/1 5 1000000000001", Str.ofString "5 5 0/1", Str.ofString "5 5 0/1 5"]
def x5 : List Str := [Str.ofString "5", Str.ofString "5 5 5", Str.ofString "5 05", Str.ofString "5 -5", Str.ofString "5 1000000000001", Str.ofString "5 x", Str.ofString "5  5", Str.ofString ""]
def f1 (x : Str) : Str := Str.ofString "maker zqzq product " ++ x ++ Str.ofString " 0/1"
def f2 (x : Str) : Str := Str.ofString "maker zqzq product 5 5 " ++ x
def f3 (x : Str) : Str := Str.ofString "maker zqzq " ++ x
def f4 (x : Str) : Str := Str.ofString "maker zqzq stretch " ++ x
def f5 (x : Str) : Str := Str.ofString "hand zqzq " ++ x
theorem wrongf {f : Str → Str} {ws : List Str} (h : (ws.map f).all wrB = true) : ∀ w ∈ ws, Wrong (f w) := fun w hw => wrongs h _ (List.mem_map.mpr ⟨w, hw, rfl⟩)
theorem f1_ok : (x1.map f1).all wrB = true := by decide +kernel
theorem f2_ok : (x2.map f2).all wrB = true := by decide +kernel
theorem f3_ok : (x3.map f3).all wrB = true := by decide +kernel
theorem f4_ok : (x4.map f4).all wrB = true := by decide +kernel
theorem f5_ok : (x5.map f5).all wrB = true := by decide +kernel
theorem x_len : ∀ x ∈ x1 ++ x2 ++ x3 ++ x4 ++ x5, x.length ≤ 40 := fun x hx => of_decide_eq_true (List.all_eq_true.mp (show (x1 ++ x2 ++ x3 ++ x4 ++ x5).all (fun x => decide (x.length ≤ 40)) = true by decide +kernel) x hx)
theorem wrong_row_ok {a c l : Addr} {ns : List Int} {S0 S : Sto} {Q : NQ} {E} {T : TgQ Q E} (h : D3 a c l ns S0 S) (k : ∀ w S', Wrong w → D3 a c l ns S0 S' → Upd [a, l] S S' → Q (.str w) S') : runF sp__law_wrong_row [.ref a] S Q E T := by
  have sl : (10000 : Nat) ≤ sizeLine := by decide
  simp_arith! [sp__law_wrong_row, m__law_wrong_row]
  simp_arith []
  refine ⟨by decide, by decide, by decide, by decide, ?_⟩
  simp_all_arith [S, p, hp, S1, g1, K1]
  refine ⟨by decide, by decide, ?_⟩
  simp_all_arith [S1, q, hq, S2, g2, K2]
  simp_all_arith! [K2, g1]
  rw [g1, g2]
  refine ⟨by decide, ?_⟩
  simp_all_arith [S2, p1, hp1, S3, g3, K3]
  simp_all_arith [S3, q1, hq1, S4, g4, K4]
  simp_all_arith! [K4, g3]
  rw [g3, g4]
  refine ⟨by decide, ?_⟩
  simp_all_arith [S4, z, hz, S5, g5, K5]
  have w5 : S5 z = some (.lst ((wA ++ wB ++ wC).map D.str)) := g5
  have ok5 : ∀ w ∈ wA ++ wB ++ wC, Wrong w := fun w hw => by
    rcases List.mem_append.mp hw with hw | hw
    · rcases List.mem_append.mp hw with hw | hw
      · exact wrongs wA_ok w hw
      · exact wrongs wB_ok w hw
    · exact wrongs wC_ok w hw
  have KK : Keeps S S5 := (((K1.trans K2).trans K3).trans K4).trans K5
  clear g5
  have KS : Upd [z] S5 S5 := Upd.refl
  have zS : S z = Option.none := (((K1.trans K2).trans K3).trans K4).fresh' hz (by simp)
  have wold0 := w5
  simp_all_arith [S5, y0, hy0, A0, gy0, Ky0]
  simp_all_arith! [Ky0, w5, KS]
  rw [gy0]
  dsimp only
  have ny0 : y0 ≠ z := fun q => by rw [← q, hy0] at wold0; cases wold0
  refine wrong_loop (xs := x1) (p := z) A0 (fun e => ∃ e3 e4 e5, e = [some (.ref a), some (.str (Str.ofString "maker zqzq product 5 5 0/1")), some (.ref z), e3, e4, e5]) ⟨_, _, _, rfl⟩ Upd.refl w5 ok5 (by decide) f1 (wrongf f1_ok) (fun S u => u _ _ (by simpa using ny0) gy0) (fun x hx e S' ws C hI u g l kC => ?_) (fun e B0 v0 hI u0 g0' o0 l0 => ?_) (by decide)
  · obtain ⟨e3, e4, e5, rfl⟩ := hI
    have lx := x_len x (by simp [hx])
    simp_arith [g]
    have l1 : (Str.ofString "maker zqzq product ").length + x.length ≤ sizeLine := by
      have : (Str.ofString "maker zqzq product ").length = 19 := by decide
      omega
    have l2 : (Str.ofString "maker zqzq product " ++ x).length + (Str.ofString " 0/1").length ≤ sizeLine := by
      rw [tlA]
      have : (Str.ofString "maker zqzq product ").length = 19 := by decide
      have : (Str.ofString " 0/1").length = 4 := by decide
      omega
    exact ⟨⟨_, _, rfl, g⟩, ⟨l1, l2, by rw [List.length_map]; omega, by
      have em : ws.map D.str ++ [D.str (f1 x)] = (ws ++ [f1 x]).map D.str := by rw [List.map_append]; rfl
      show C _ (put S' z (.lst (ws.map D.str ++ [D.str (f1 x)])))
      rw [em]
      exact kC _ ⟨_, _, _, rfl⟩⟩⟩
  obtain ⟨e3, e4, e5, rfl⟩ := hI
  replace KS := KS.trans u0
  try simp_arith []
  have wold1 := g0'
  simp_all_arith [B0, y1, hy1, A1, gy1, Ky1]
  simp_all_arith! [Ky1, g0', KS]
  rw [gy1]
  dsimp only
  have ny1 : y1 ≠ z := fun q => by rw [← q, hy1] at wold1; cases wold1
  refine wrong_loop (xs := x2) (p := z) A1 (fun e => ∃ e3 e4 e5, e = [some (.ref a), some (.str (Str.ofString "maker zqzq product 5 5 0/1")), some (.ref z), e3, e4, e5]) ⟨_, _, _, rfl⟩ Upd.refl g0' o0 (by decide) f2 (wrongf f2_ok) (fun S u => u _ _ (by simpa using ny1) gy1) (fun x hx e S' ws C hI u g l kC => ?_) (fun e B1 v1 hI u1 g1' o1 l1 => ?_) (by have q0 : (wA ++ wB ++ wC).length = 15 := rfl; have q1 : x1.length = 9 := rfl; have q2 : x2.length = 12 := rfl; have q3 : x3.length = 5 := rfl; have q4 : x4.length = 5 := rfl; have q5 : x5.length = 8 := rfl; omega)
  · obtain ⟨e3, e4, e5, rfl⟩ := hI
    have lx := x_len x (by simp [hx])
    simp_arith [g]
    have l1 : (Str.ofString "maker zqzq product 5 5 ").length + x.length ≤ sizeLine := by
      have : (Str.ofString "maker zqzq product 5 5 ").length = 23 := by decide
      omega
    exact ⟨⟨_, _, rfl, g⟩, ⟨l1, by rw [List.length_map]; omega, by
      have em : ws.map D.str ++ [D.str (f2 x)] = (ws ++ [f2 x]).map D.str := by rw [List.map_append]; rfl
      show C _ (put S' z (.lst (ws.map D.str ++ [D.str (f2 x)])))
      rw [em]
      exact kC _ ⟨_, _, _, rfl⟩⟩⟩
  obtain ⟨e3, e4, e5, rfl⟩ := hI
  replace KS := KS.trans u1
  try simp_arith []
  have wold2 := g1'
  simp_all_arith [B1, y2, hy2, A2, gy2, Ky2]
  simp_all_arith! [Ky2, g1', KS]
  rw [gy2]
  dsimp only
  have ny2 : y2 ≠ z := fun q => by rw [← q, hy2] at wold2; cases wold2
  refine wrong_loop (xs := x3) (p := z) A2 (fun e => ∃ e3 e4 e5, e = [some (.ref a), some (.str (Str.ofString "maker zqzq product 5 5 0/1")), some (.ref z), e3, e4, e5]) ⟨_, _, _, rfl⟩ Upd.refl g1' o1 (by decide) f3 (wrongf f3_ok) (fun S u => u _ _ (by simpa using ny2) gy2) (fun x hx e S' ws C hI u g l kC => ?_) (fun e B2 v2 hI u2 g2' o2 l2 => ?_) (by have q0 : (wA ++ wB ++ wC).length = 15 := rfl; have q1 : x1.length = 9 := rfl; have q2 : x2.length = 12 := rfl; have q3 : x3.length = 5 := rfl; have q4 : x4.length = 5 := rfl; have q5 : x5.length = 8 := rfl; omega)
  · obtain ⟨e3, e4, e5, rfl⟩ := hI
    have lx := x_len x (by simp [hx])
    simp_arith [g]
    have l1 : (Str.ofString "maker zqzq ").length + x.length ≤ sizeLine := by
      have : (Str.ofString "maker zqzq ").length = 11 := by decide
      omega
    exact ⟨⟨_, _, rfl, g⟩, ⟨l1, by rw [List.length_map]; omega, by
      have em : ws.map D.str ++ [D.str (f3 x)] = (ws ++ [f3 x]).map D.str := by rw [List.map_append]; rfl
      show C _ (put S' z (.lst (ws.map D.str ++ [D.str (f3 x)])))
      rw [em]
      exact kC _ ⟨_, _, _, rfl⟩⟩⟩
  obtain ⟨e3, e4, e5, rfl⟩ := hI
  replace KS := KS.trans u2
  try simp_arith []
  have wold3 := g2'
  simp_all_arith [B2, y3, hy3, A3, gy3, Ky3]
  simp_all_arith! [Ky3, g2', KS]
  rw [gy3]
  dsimp only
  have ny3 : y3 ≠ z := fun q => by rw [← q, hy3] at wold3; cases wold3
  refine wrong_loop (xs := x4) (p := z) A3 (fun e => ∃ e3 e4 e5, e = [some (.ref a), some (.str (Str.ofString "maker zqzq product 5 5 0/1")), some (.ref z), e3, e4, e5]) ⟨_, _, _, rfl⟩ Upd.refl g2' o2 (by decide) f4 (wrongf f4_ok) (fun S u => u _ _ (by simpa using ny3) gy3) (fun x hx e S' ws C hI u g l kC => ?_) (fun e B3 v3 hI u3 g3' o3 l3 => ?_) (by have q0 : (wA ++ wB ++ wC).length = 15 := rfl; have q1 : x1.length = 9 := rfl; have q2 : x2.length = 12 := rfl; have q3 : x3.length = 5 := rfl; have q4 : x4.length = 5 := rfl; have q5 : x5.length = 8 := rfl; omega)
  · obtain ⟨e3, e4, e5, rfl⟩ := hI
    have lx := x_len x (by simp [hx])
    simp_arith [g]
    have l1 : (Str.ofString "maker zqzq stretch ").length + x.length ≤ sizeLine := by
      have : (Str.ofString "maker zqzq stretch ").length = 19 := by decide
      omega
    exact ⟨⟨_, _, rfl, g⟩, ⟨l1, by rw [List.length_map]; omega, by
      have em : ws.map D.str ++ [D.str (f4 x)] = (ws ++ [f4 x]).map D.str := by rw [List.map_append]; rfl
      show C _ (put S' z (.lst (ws.map D.str ++ [D.str (f4 x)])))
      rw [em]
      exact kC _ ⟨_, _, _, rfl⟩⟩⟩
  obtain ⟨e3, e4, e5, rfl⟩ := hI
  replace KS := KS.trans u3
  try simp_arith []
  have wold4 := g3'
  simp_all_arith [B3, y4, hy4, A4, gy4, Ky4]
  simp_all_arith! [Ky4, g3', KS]
  rw [gy4]
  dsimp only
  have ny4 : y4 ≠ z := fun q => by rw [← q, hy4] at wold4; cases wold4
  refine wrong_loop (xs := x5) (p := z) A4 (fun e => ∃ e3 e4 e5, e = [some (.ref a), some (.str (Str.ofString "maker zqzq product 5 5 0/1")), some (.ref z), e3, e4, e5]) ⟨_, _, _, rfl⟩ Upd.refl g3' o3 (by decide) f5 (wrongf f5_ok) (fun S u => u _ _ (by simpa using ny4) gy4) (fun x hx e S' ws C hI u g l kC => ?_) (fun e B4 v4 hI u4 g4' o4 l4 => ?_) (by have q0 : (wA ++ wB ++ wC).length = 15 := rfl; have q1 : x1.length = 9 := rfl; have q2 : x2.length = 12 := rfl; have q3 : x3.length = 5 := rfl; have q4 : x4.length = 5 := rfl; have q5 : x5.length = 8 := rfl; omega)
  · obtain ⟨e3, e4, e5, rfl⟩ := hI
    have lx := x_len x (by simp [hx])
    simp_arith [g]
    have l1 : (Str.ofString "hand zqzq ").length + x.length ≤ sizeLine := by
      have : (Str.ofString "hand zqzq ").length = 10 := by decide
      omega
    exact ⟨⟨_, _, rfl, g⟩, ⟨l1, by rw [List.length_map]; omega, by
      have em : ws.map D.str ++ [D.str (f5 x)] = (ws ++ [f5 x]).map D.str := by rw [List.map_append]; rfl
      show C _ (put S' z (.lst (ws.map D.str ++ [D.str (f5 x)])))
      rw [em]
      exact kC _ ⟨_, _, _, rfl⟩⟩⟩
  obtain ⟨e3, e4, e5, rfl⟩ := hI
  replace KS := KS.trans u4
  try simp_arith []
  have KZ : Keeps S B4 := upd_drop0 (KK.up.trans KS) (by simpa using zS)
  refine next3 (h.keep KZ) fun v S7 v0 v1 d7 u7 => ?_
  have zf : z ∉ [a, l] := h.free zS
  have g7 := u7 _ _ zf g4'
  have e0 : (0 : Int) < ((v4.length : Nat) : Int) := by have : x5.length = 8 := rfl; omega
  have mv := mod_lt (i := v) e0
  simp_arith [g7, List.length_map, e0]
  have ix : atI (v4.map D.str) (v % (v4.length : Nat)) = some (.str (v4[(v % (v4.length : Nat)).toNat]'(by omega))) := by
    rw [atI_nat' mv.1, List.getElem?_map, List.getElem?_eq_getElem (by omega)]
    rfl
  rw [ix]
  exact k _ _ (o4 _ (List.getElem_mem _)) d7 (KZ.up.trans u7)

/-! ### rows put in -/
def insL (l : List Str) (i : Nat) (b : Str) : List Str := l.take i ++ [b] ++ l.drop i
theorem insL_map (l : List Str) (i : Nat) (b : Str) : (l.map D.str).take i ++ [D.str b] ++ (l.map D.str).drop i = (insL l i b).map D.str := by
  unfold insL
  rw [List.map_append, List.map_append, List.map_take, List.map_drop]; rfl
theorem insL_len {l : List Str} {i : Nat} {b : Str} : (insL l i b).length = l.length + 1 := by
  unfold insL
  simp only [List.length_append, List.length_take, List.length_drop, List.length_singleton]; omega
theorem insL_mem {l : List Str} {i : Nat} {b x : Str} (h : x ∈ insL l i b) : x = b ∨ x ∈ l := by
  unfold insL at h
  rcases List.mem_append.mp h with h | h
  · rcases List.mem_append.mp h with h | h
    · exact .inr (List.mem_of_mem_take h)
    · exact .inl (List.mem_singleton.mp h)
  · exact .inr (List.mem_of_mem_drop h)
theorem ins_two {l : List Str} {i j : Nat} {b d : Str} (hi : i ≤ l.length) (hj : j ≤ l.length + 1) : ∃ bad rest, insL (insL l i b) j d = l.take (min i j) ++ bad :: rest ∧ (bad = b ∨ bad = d) ∧ (∀ x ∈ rest, x = b ∨ x = d ∨ x ∈ l) ∧ rest.length ≤ l.length + 1 := by
  have e1 : insL l i b = l.take i ++ b :: l.drop i := by unfold insL; rw [List.append_assoc]; rfl
  have lt : (l.take i).length = i := by rw [List.length_take]; omega
  by_cases c : j ≤ i
  · refine ⟨d, (insL l i b).drop j, ?_, .inr rfl, fun x hx => ?_, ?_⟩
    · have e2 : (insL l i b).take j = l.take (min i j) := by
        rw [e1, List.take_append_of_le_length (by omega), List.take_take, Nat.min_comm]
      show (insL l i b).take j ++ [d] ++ (insL l i b).drop j = _
      rw [e2, List.append_assoc]; rfl
    · rcases insL_mem (List.mem_of_mem_drop hx) with h | h
      · exact .inl h
      · exact .inr (.inr h)
    · rw [List.length_drop, insL_len]; omega
  · refine ⟨b, (l.drop i).take (j - i - 1) ++ [d] ++ (insL l i b).drop j, ?_, .inl rfl, fun x hx => ?_, ?_⟩
    · have e2 : (insL l i b).take j = l.take i ++ b :: (l.drop i).take (j - i - 1) := by
        rw [e1, List.take_append, List.take_of_length_le (by omega), lt]
        obtain ⟨n, hn⟩ : ∃ n, j - i = n + 1 := ⟨j - i - 1, by omega⟩
        rw [hn, List.take_succ_cons]
        rfl
      show (insL l i b).take j ++ [d] ++ (insL l i b).drop j = _
      rw [e2, show min i j = i by omega]
      simp
    · rcases List.mem_append.mp hx with hx | hx
      · rcases List.mem_append.mp hx with hx | hx
        · exact .inr (.inr (List.mem_of_mem_drop (List.mem_of_mem_take hx)))
        · exact .inr (.inl (List.mem_singleton.mp hx))
      · rcases insL_mem (List.mem_of_mem_drop hx) with h | h
        · exact .inl h
        · exact .inr (.inr h)
    · simp only [List.length_append, List.length_take, List.length_drop, List.length_singleton, insL_len]; omega
def RowOk (r : Str) : Prop := 10 ∉ TL.tl r ∧ r.length ≤ 400
theorem Wrong.row {w : Str} (h : Wrong w) : RowOk w := ⟨h.nl, h.len⟩
theorem d3_at {a c l p : Addr} {ns : List Int} {S0 S S3 S4 : Sto} (h : D3 a c l ns S0 S) (hp : S p = Option.none) (d : D3 a c l ns S0 S3) (u : Upd [a, l] S S3) (k : Upd [p] S3 S4) : D3 a c l ns S0 S4 ∧ Upd [a, l] S S4 := by
  have al := (D3.refl h.s).free hp
  have pc : p ≠ c := fun z => by
    obtain ⟨_, _, _, n, ls, q1, q2, q3, q4⟩ := h.s
    rw [← z, hp] at q2; cases q2
  have hu : Upd [p, a, l] S S4 := (u.mono (by simp)).trans (k.mono (by simp))
  have hu2 : Upd [a, l] S S4 := upd_drop hu fun q hq hn => by
    simp only [List.mem_cons, List.not_mem_nil, or_false] at hq hn
    rcases hq with rfl | hq
    · exact hp
    · exact absurd hq hn
  exact ⟨⟨d.s.up k (by simpa using fun z => al (by simp [z])) (by simpa using Ne.symm pc) (by simpa using fun z => al (by simp [z])), h.u.trans hu2⟩, hu2⟩
theorem wrong_ok {a c l pr : Addr} {ns : List Int} {rows : List Str} {S0 S : Sto} {Q : NQ} {E} {T : TgQ Q E} (h : D3 a c l ns S0 S) (hp : S pr = some (.lst (rows.map D.str))) (lr : rows.length ≤ 12) (rok : ∀ r ∈ rows, RowOk r)
    (k : ∀ p (f : Nat) bad rest S', S' p = some (.lst ((rows.take f ++ bad :: rest).map D.str)) → f ≤ rows.length → Wrong bad → (∀ r ∈ rest, RowOk r) → rest.length ≤ 20 → D3 a c l ns S0 S' → Upd [a, l] S S' → Q (.tup [.ref p, .int ((f : Nat) + 1 : Int)]) S') : runF sp__law_wrong [.ref pr, .ref a] S Q E T := by
  have sl : (10000 : Nat) ≤ sizeLine := by decide
  simp_arith! [sp__law_wrong, m__law_wrong]
  simp_arith [hp]
  simp_all_arith [S, p, hp1, S1, g1, K1]
  have pf : p ∉ [a, l] := h.free hp1
  refine next3 (h.keep K1) fun v S2 v0 v1 d2 u2 => ?_
  have g2 := u2 _ _ pf g1
  have n1 : (0 : Int) < ((rows.length : Nat) : Int) + 1 := by omega
  have mv := mod_lt (i := v) n1
  simp_arith [g2, List.length_map, n1]
  refine ⟨⟨_, _, rfl, g2⟩, wrong_row_ok d2 fun b S3 wb d3 u3 => ?_⟩
  have g3 := u3 _ _ pf g2
  obtain ⟨i, hi⟩ : ∃ i : Nat, v % ((rows.length : Nat) + 1 : Int) = (i : Int) := ⟨(v % ((rows.length : Nat) + 1 : Int)).toNat, by omega⟩
  rw [hi] at mv ⊢
  have i64 : (i : Int) < 2 ^ 63 := by omega
  have i0 : (0 : Int) ≤ (i : Int) := by omega
  have lz : rows.length < sizeLine := by omega
  simp_arith [g3, List.length_map, lz, i0, i64, Int.toNat_natCast, insL_map]
  have U3 : Upd [a, l] S S3 := (Keeps.up K1).trans (u2.trans u3)
  have g4 : put S3 p (.lst ((insL rows i b).map D.str)) p = some (.lst ((insL rows i b).map D.str)) := put_same
  obtain ⟨d4, U4⟩ := d3_at h hp1 d3 U3 (Upd.at (p := p) (o := .lst ((insL rows i b).map D.str)) (by simp))
  generalize put S3 p (.lst ((insL rows i b).map D.str)) = S4 at *
  refine next3 d4 fun v2 S5 v20 v21 d5 u5 => ?_
  have g5 := u5 _ _ pf g4
  have e3 : (0 : Int) < 3 := by decide
  have l1 : (insL rows i b).length = rows.length + 1 := insL_len
  have b1 : ∀ r ∈ insL rows i b, RowOk r := fun r hr => (insL_mem hr).elim (fun z => z ▸ wb.row) (rok r)
  simp_arith [e3]
  by_cases c1 : v2 % 3 = 1
  · rw [decide_eq_true c1]
    dsimp only
    try simp_arith []
    refine next3 d5 fun v3 S6 v30 v31 d6 u6 => ?_
    have g6 := u6 _ _ pf g5
    have n2 : (0 : Int) < (((insL rows i b).length : Nat) : Int) + 1 := by omega
    have mv3 := mod_lt (i := v3) n2
    simp_arith [g6, List.length_map, n2]
    refine ⟨⟨_, _, rfl, g6⟩, wrong_row_ok d6 fun b2 S7 wb2 d7 u7 => ?_⟩
    have g7 := u7 _ _ pf g6
    obtain ⟨j, hj⟩ : ∃ j : Nat, v3 % (((insL rows i b).length : Nat) + 1 : Int) = (j : Int) := ⟨(v3 % (((insL rows i b).length : Nat) + 1 : Int)).toNat, by omega⟩
    rw [hj] at mv3 ⊢
    have j64 : (j : Int) < 2 ^ 63 := by omega
    have j0 : (0 : Int) ≤ (j : Int) := by omega
    have lz2 : (insL rows i b).length < sizeLine := by omega
    obtain ⟨d8, U8⟩ := d3_at h hp1 d7 (U4.trans (u5.trans (u6.trans u7))) (Upd.at (p := p) (o := .lst ((insL (insL rows i b) j b2).map D.str)) (by simp))
    have g8 : put S7 p (.lst ((insL (insL rows i b) j b2).map D.str)) p = some (.lst ((insL (insL rows i b) j b2).map D.str)) := put_same
    obtain ⟨bad, rest, er, ebad, erest, lrest⟩ := ins_two (l := rows) (i := i) (j := j) (b := b) (d := b2) (by omega) (by omega)
    replace g8 : put S7 p (.lst ((insL (insL rows i b) j b2).map D.str)) p = some (.lst ((rows.take (min i j) ++ bad :: rest).map D.str)) := by rw [← er]; exact put_same
    have wbad : Wrong bad := ebad.elim (fun z => z ▸ wb) (fun z => z ▸ wb2)
    have kk := k p (min i j) bad rest _ g8 (by omega) wbad (fun r hr => by
      rcases erest r hr with z | z | z
      · exact z ▸ wb.row
      · exact z ▸ wb2.row
      · exact rok r z) (by omega) d8 U8
    have em : (if (j : Int) < (i : Int) then (j : Int) else (i : Int)) = ((min i j : Nat) : Int) := by split <;> omega
    simp_arith [g7, List.length_map, lz2, j0, j64, Int.toNat_natCast, insL_map]
    rw [em]
    exact kk
  · rw [decide_eq_false c1]
    dsimp only
    try simp_arith []
    have er : insL rows i b = rows.take i ++ b :: rows.drop i := by unfold insL; rw [List.append_assoc]; rfl
    rw [er] at g5
    exact k p i b _ _ g5 (by omega) wb (fun r hr => rok r (List.mem_of_mem_drop hr)) (by rw [List.length_drop]; omega) d5 (U4.trans u5)

/-! ### called twice, one too many -/
theorem cut_to {ds : List D} {n : Nat} : cutD ds Option.none (some (n : Int)) = ds.take n := by
  unfold cutD
  rw [HT.sIx_none, HT.sIx_nat, List.drop_zero, Nat.sub_zero]
  by_cases h : n ≤ ds.length
  · rw [Nat.min_eq_left h]
  · rw [Nat.min_eq_right (by omega), List.take_of_length_le (Nat.le_refl _), List.take_of_length_le (by omega)]
theorem cut_from {ds : List D} {n : Nat} : cutD ds (some (n : Int)) Option.none = ds.drop n := by
  unfold cutD
  rw [HT.sIx_none, HT.sIx_nat]
  by_cases h : n ≤ ds.length
  · rw [Nat.min_eq_left h]
    exact List.take_of_length_le (by rw [List.length_drop]; omega)
  · rw [Nat.min_eq_right (by omega), Nat.sub_self, List.take_zero, List.drop_eq_nil_of_le (by omega)]
theorem join_fits {rs : List Str} (h : ∀ r ∈ rs, RowOk r) (l : rs.length ≤ 40) : (rs.map (·.length)).sum + rs.length * (Str.ofString "\n").length ≤ 16777216 := by
  have a := sum_le fun w hw => (h w hw).2
  have e : (Str.ofString "\n").length = 1 := by decide
  rw [e]
  omega
def mk7 : Mk := ⟨.su, 7, 7, 0, 1, 1, 1⟩
theorem mk7_ok : mk7.Ok := ⟨by decide, by decide, by decide, by decide, ⟨by decide, by decide, by decide, by decide⟩, nofun, nofun, fun _ => ⟨by decide, by decide, by decide, by decide⟩⟩
theorem row7 (nm : Str) : Str.ofString "maker " ++ nm ++ Str.ofString " sum 7 7 0/1 1 1" = rowM (nm, mk7) := by
  refine TL.ext_tl ?_
  have e : mwords nm mk7 = [Str.ofString "maker", nm, Str.ofString "sum", shI 7, shI 7, dueI 0 1, shI 1, shI 1] := rfl
  have c1 : TL.tl (Str.ofString "maker ") = TL.tl (Str.ofString "maker") ++ [32] := by decide +kernel
  have c2 : TL.tl (Str.ofString " sum 7 7 0/1 1 1") = [32] ++ TL.joinL [32] [TL.tl (Str.ofString "sum"), TL.tl (shI 7), TL.tl (shI 7), TL.tl (dueI 0 1), TL.tl (shI 1), TL.tl (shI 1)] := by decide +kernel
  show _ = TL.tl (Txt.join (Str.ofString " ") (mwords nm mk7))
  rw [e, TL.join_eq, TL.tl_join, TL.tl_append, TL.tl_append, tl_sp, c1, c2]
  simp only [List.map_cons, List.map_nil, TL.joinL, List.append_assoc]
theorem rowh7 (nm : Str) : Str.ofString "hand " ++ nm ++ Str.ofString " 7 7" = rowH ⟨nm, 7, 7⟩ := by
  refine TL.ext_tl ?_
  have e : hwords ⟨nm, 7, 7⟩ = [Str.ofString "hand", nm, shI 7, shI 7] := rfl
  have c1 : TL.tl (Str.ofString "hand ") = TL.tl (Str.ofString "hand") ++ [32] := by decide +kernel
  have c2 : TL.tl (Str.ofString " 7 7") = [32] ++ TL.joinL [32] [TL.tl (shI 7), TL.tl (shI 7)] := by decide +kernel
  show _ = TL.tl (Txt.join (Str.ofString " ") (hwords ⟨nm, 7, 7⟩))
  rw [e, TL.join_eq, TL.tl_join, TL.tl_append, TL.tl_append, tl_sp, c1, c2]
  simp only [List.map_cons, List.map_nil, TL.joinL, List.append_assoc]
theorem splM {nm : Str} {m : Mk} (no : NameOk nm) (o : m.Ok) : splS 32 (rowM (nm, m)) = mwords nm m := by
  obtain ⟨w1, w2, w3⟩ := mwords_ok no o
  rw [← split_sp]
  exact split_jo w2 w1
theorem splH {h : Hnd} (no : NameOk h.nm) (o : h.Ok) : splS 32 (rowH h) = hwords h := by
  obtain ⟨w1, w2, w3⟩ := hwords_ok no o
  rw [← split_sp]
  exact split_jo w2 w1
theorem rowM_ok {nm : Str} {m : Mk} (no : NameOk nm) (o : m.Ok) : RowOk (rowM (nm, m)) := by
  obtain ⟨w1, w2, w3⟩ := mwords_ok no o
  exact ⟨jo_nl w1, jo_len w1 w3⟩
theorem rowH_ok {h : Hnd} (no : NameOk h.nm) (o : h.Ok) : RowOk (rowH h) := by
  obtain ⟨w1, w2, w3⟩ := hwords_ok no o
  exact ⟨jo_nl w1, jo_len w1 w3⟩
theorem dget_some {kvs : List (Key × D)} {k : Key} (h : k ∈ kvs.map (·.1)) : (dget kvs k).isSome = true := by
  obtain ⟨p, hp, rfl⟩ := List.mem_map.mp h
  unfold dget
  cases e : kvs.find? (fun q => decide (q.1 = p.1)) with
  | some v => rfl
  | none =>
    have := List.find?_eq_none.mp e p hp
    simp at this
theorem st_in {rs : List Mkr} {nm : Str} (h : nm ∈ (rs.map Mkr.two).map (·.1)) : (dget (stD rs) (.inr nm)).isSome = true := by
  refine dget_some ?_
  obtain ⟨x, hx, rfl⟩ := List.mem_map.mp h
  obtain ⟨r, hr, rfl⟩ := List.mem_map.mp hx
  exact List.mem_map.mpr ⟨_, List.mem_map.mpr ⟨r, hr, rfl⟩, rfl⟩
theorem po_in {hs : List Hnd} {nm : Str} (h : nm ∈ hs.map (·.nm)) : (dget (poD hs) (.inr nm)).isSome = true := by
  refine dget_some ?_
  obtain ⟨x, hx, rfl⟩ := List.mem_map.mp h
  exact List.mem_map.mpr ⟨_, List.mem_map.mpr ⟨x, hx, rfl⟩, rfl⟩
/-- a row called as one ahead -/
theorem noM_dup {ms : List (Str × Mk)} {hs : List Hnd} {nm : Str} {m : Mk} (no : NameOk nm) (o : m.Ok) (h : nm ∈ ms.map (·.1) ∨ nm ∈ hs.map (·.nm)) : NoPut ms hs (rowM (nm, m)) := fun g ps pk w rs S Q E T er G hw k => by
  rw [splM no o] at hw
  refine is_put_dup G no hw (h.imp (fun z => st_in (by rw [er]; exact z)) po_in) k
theorem noH_dup {ms : List (Str × Mk)} {hs : List Hnd} {h : Hnd} (no : NameOk h.nm) (o : h.Ok) (hd : h.nm ∈ ms.map (·.1) ∨ h.nm ∈ hs.map (·.nm)) : NoPut ms hs (rowH h) := fun g ps pk w rs S Q E T er G hw k => by
  rw [splH no o] at hw
  refine is_put_dup G no hw (hd.imp (fun z => st_in (by rw [er]; exact z)) po_in) k
theorem noM_full {ms : List (Str × Mk)} {hs : List Hnd} {nm : Str} {m : Mk} (no : NameOk nm) (o : m.Ok) (h : ms.length = 6 ∨ hs ≠ []) : NoPut ms hs (rowM (nm, m)) := fun g ps pk w rs S Q E T er G hw k => by
  rw [splM no o] at hw
  exact is_put_full G no o (h.imp (fun z => by rw [← z, ← er, List.length_map]) id) hw k
theorem noH_full {ms : List (Str × Mk)} {hs : List Hnd} {h : Hnd} (no : NameOk h.nm) (o : h.Ok) (hd : hs.length = 6 ∨ ms = []) : NoPut ms hs (rowH h) := fun g ps pk w rs S Q E T er G hw k => by
  have sl : (10000 : Nat) ≤ sizeLine := by decide
  rw [splH no o] at hw
  obtain ⟨w1, w2, w3⟩ := hwords_ok no o
  exact is_put_fullh G no (fun z hz => by have := (w1 z hz).len; omega) (hd.imp id fun z => by rw [z] at er; exact List.map_eq_nil_iff.mp er) hw k
theorem sk_iff {z : Str} : PyData.strOk z = true ↔ ∀ c ∈ TL.tl z, c < 0x110000 := by
  unfold PyData.strOk
  rw [Array.all_eq_true_iff_forall_mem]
  constructor
  · intro h c hc
    exact of_decide_eq_true (h c (Array.mem_toList_iff.mp hc))
  · intro h c hc
    exact decide_eq_true (h c (Array.mem_toList_iff.mpr hc))
theorem sk_app {a b : Str} (ha : PyData.strOk a = true) (hb : PyData.strOk b = true) : PyData.strOk (a ++ b) = true := by
  rw [sk_iff] at *
  intro c hc
  rw [TL.tl_append] at hc
  exact (List.mem_append.mp hc).elim (ha c) (hb c)
theorem mem_joinLr {c : Nat} {S : List Nat} : ∀ {ps : List (List Nat)}, c ∈ TL.joinL S ps → c ∈ S ∨ ∃ p ∈ ps, c ∈ p
  | [], h => by unfold TL.joinL at h; cases h
  | [p], h => by unfold TL.joinL at h; exact .inr ⟨p, by simp, h⟩
  | p :: q :: r, h => by
    unfold TL.joinL at h
    rw [List.mem_append, List.mem_append] at h
    rcases h with h | h | h
    · exact .inr ⟨p, by simp, h⟩
    · exact .inl h
    · rcases mem_joinLr h with h | ⟨x, hx, h⟩
      · exact .inl h
      · exact .inr ⟨x, by simp at hx ⊢; exact .inr hx, h⟩
theorem sk_join {y : Str} {ws : List Str} (hy : PyData.strOk y = true) (h : ∀ w ∈ ws, PyData.strOk w = true) : PyData.strOk (Txt.join y ws) = true := by
  rw [sk_iff]
  intro c hc
  rw [TL.join_eq, TL.tl_join] at hc
  rcases mem_joinLr hc with hc | ⟨p, hp, hc⟩
  · exact sk_iff.mp hy c hc
  · obtain ⟨w, hw, rfl⟩ := List.mem_map.mp hp
    exact sk_iff.mp (h w hw) c hc
theorem sk_rowM {nm : Str} {m : Mk} (no : NameOk nm) : PyData.strOk (rowM (nm, m)) = true := by
  refine sk_join (str_ok " ") fun w hw => ?_
  have hm : PyData.strOk m.word = true := by unfold Mk.word; cases m.k <;> exact str_ok _
  have ht : ∀ x ∈ m.tails, PyData.strOk x = true := fun x hx => by
    unfold Mk.tails at hx
    cases hk : m.k with
    | pr => rw [hk] at hx; cases hx
    | st =>
      rw [hk] at hx
      simp only [List.mem_cons, List.not_mem_nil, or_false] at hx
      rcases hx with rfl | rfl <;> exact str_ok _
    | su =>
      rw [hk] at hx
      simp only [List.mem_cons, List.not_mem_nil, or_false] at hx
      rcases hx with rfl | rfl <;> exact str_ok _
  unfold mwords at hw
  simp only [List.mem_cons] at hw
  rcases hw with rfl | rfl | rfl | rfl | rfl | rfl | hw
  · exact str_ok _
  · exact strOk_let no
  · exact hm
  · exact str_ok _
  · exact str_ok _
  · exact sk_app (sk_app (str_ok _) (str_ok _)) (str_ok _)
  · exact ht w hw
theorem sk_rowH {h : Hnd} (no : NameOk h.nm) : PyData.strOk (rowH h) = true := by
  refine sk_join (str_ok " ") fun w hw => ?_
  unfold hwords at hw
  simp only [List.mem_cons, List.not_mem_nil, or_false] at hw
  rcases hw with rfl | rfl | rfl | rfl
  · exact str_ok _
  · exact strOk_let no
  · exact str_ok _
  · exact str_ok _
theorem sk_text {ms : List (Str × Mk)} {hs : List Hnd} (X : MTxt ms hs) : PyData.strOk (mtext ms hs) = true := by
  refine sk_join (str_ok "\n") fun w hw => ?_
  rcases List.mem_append.mp hw with hw | hw
  · obtain ⟨x, hx, rfl⟩ := List.mem_map.mp hw
    exact sk_rowM (X.mo x hx).2
  · obtain ⟨x, hx, rfl⟩ := List.mem_map.mp hw
    exact sk_rowH (X.ho x hx).2
theorem eqT_si2 {S : Sto} {z : Str} {i : Int} (hz : PyData.strOk z = true) : N.eqT S (.tup [.str z, .int i]) (.tup [.str z, .int i]) = some true :=
  eqT_tup (ps := [.str z, .int i]) rfl (by simp [PyData.canLayAll0, PyData.canLay0, hz]) (by simp [PyData.depthAll, PyData.depth])
theorem eqT_ss2 {S : Sto} {y z : Str} (hy : PyData.strOk y = true) (hz : PyData.strOk z = true) : N.eqT S (.tup [.str y, .str z]) (.tup [.str y, .str z]) = some true :=
  eqT_tup (ps := [.str y, .str z]) rfl (by simp [PyData.canLayAll0, PyData.canLay0, hy, hz]) (by simp [PyData.depthAll, PyData.depth])
theorem insL_mid {ms : List (Str × Mk)} {hs : List Hnd} {b : Str} : insL (ms.map rowM ++ hs.map rowH) ms.length b = ms.map rowM ++ (([] : List Hnd).map rowH ++ b :: hs.map rowH) := by
  unfold insL
  have e : ms.length = (ms.map rowM).length := by rw [List.length_map]
  rw [e, List.take_left, List.drop_left]
  simp
theorem twice_ok {a c l w wm wh pr : Addr} {ns : List Int} {ms : List (Str × Mk)} {hs : List Hnd} {S0 S : Sto} {Q : NQ} {E} {T : TgQ Q E} (h : D3 a c l ns S0 S) (O : OwnAt w wm wh ms hs S) (X : MTxt ms hs) (hp : S pr = some (.lst ((ms.map rowM ++ hs.map rowH).map D.str))) (nw : w ∉ [a, l] ∧ wm ∉ [a, l] ∧ wh ∉ [a, l] ∧ pr ∉ [a, l])
    (k : ∀ S', D3 a c l ns S0 S' → Upd [a, l] S S' → Q (.bl true) S') : runF sp__law_called_twice [.ref w, .ref pr, .ref a] S Q E T := by
  have sl : (10000 : Nat) ≤ sizeLine := by decide
  have m6 := X.m6
  have h6 := X.h6
  simp_arith! [sp__law_called_twice, m__law_called_twice]
  simp_arith [O.own, own1, O.mak]
  simp_all_arith [S, p, hp1, S1, g1, K1]
  have e1 : (maD ms).map (fun kv => kD kv.1) = (ms.map (·.1)).map D.str := by unfold maD; rw [List.map_map, List.map_map]; rfl
  rw [e1] at g1
  have pf : p ∉ [a, l] := h.free hp1
  have lma : (maD ms).length = ms.length := by unfold maD; rw [List.length_map]
  rw [lma]
  refine next3 (h.keep K1) fun v S2 v0 v1 d2 u2 => ?_
  have g2 := u2 _ _ pf g1
  have ml : 0 < ms.length := by cases hm : ms with
    | nil => exact absurd hm X.m0
    | cons x r => simp
  have n1 : (0 : Int) < ((ms.length : Nat) : Int) := by omega
  have mv := mod_lt (i := v) n1
  obtain ⟨i, hi⟩ : ∃ i : Nat, v % ((ms.length : Nat) : Int) = (i : Int) := ⟨(v % ((ms.length : Nat) : Int)).toNat, by omega⟩
  rw [hi] at mv
  have im : i < (ms.map (·.1)).length := by rw [List.length_map]; omega
  have at1 : atI ((ms.map (·.1)).map D.str) (i : Int) = some (.str ((ms.map (·.1))[i])) := by
    rw [atI_nat' (by omega), Int.toNat_natCast, List.getElem?_map, List.getElem?_eq_getElem im]; rfl
  have nmm : (ms.map (·.1))[i] ∈ ms.map (·.1) := List.getElem_mem im
  generalize (ms.map (·.1))[i] = nm at *
  obtain ⟨x, hx, exn⟩ := List.mem_map.mp nmm
  have no : NameOk nm := exn ▸ (X.mo x hx).2
  have ln := no.l2
  have l1 : (Str.ofString "maker ").length + nm.length ≤ sizeLine := by
    have : (Str.ofString "maker ").length = 6 := by decide
    omega
  have l2 : (Str.ofString "maker " ++ nm).length + (Str.ofString " sum 7 7 0/1 1 1").length ≤ sizeLine := by
    rw [tlA]
    have : (Str.ofString "maker ").length = 6 := by decide
    have : (Str.ofString " sum 7 7 0/1 1 1").length = 16 := by decide
    omega
  have hp2 := u2 _ _ nw.2.2.2 (K1 _ _ (by simp) hp)
  simp_arith [g2, n1, hi, at1, l1, l2, hp2, row7, cut_to]
  have rok : ∀ r ∈ ms.map rowM ++ hs.map rowH, RowOk r := X.rows
  have rh : ∀ r ∈ hs.map rowH, RowOk r := fun r hr => rok r (List.mem_append.mpr (.inr hr))
  have lr : (ms.map rowM ++ hs.map rowH).length ≤ 12 := by
    rw [List.length_append, List.length_map, List.length_map]; omega
  simp_all_arith [S2, p1, q1, A1, a1, L1]
  simp_all_arith [A1, p2, q2, A2, a2, L2]
  rw [L2 _ _ (by simp) a1, a2]
  refine ⟨by simp only [List.length_take, List.length_map, List.length_append, List.length_singleton]; omega, ?_⟩
  simp_all_arith [A2, p3, q3, A3, a3, L3]
  rw [L3 _ _ (by simp) (L2 _ _ (by simp) (L1 _ _ (by simp) hp2))]
  dsimp only
  rw [cut_from]
  simp_all_arith [A3, p4, q4, A4, a4, L4]
  rw [L4 _ _ (by simp) a3, a4]
  refine ⟨by simp only [List.length_take, List.length_drop, List.length_map, List.length_append, List.length_singleton]; omega, ?_⟩
  simp_all_arith [A4, p5, q5, A5, a5, L5]
  rw [a5]
  dsimp only
  have LL : Keeps S2 A5 := (((L1.trans L2).trans L3).trans L4).trans L5
  rw [insL_map, strsM, insL_mid]
  dsimp only
  refine ⟨join_fits (fun r hr => by
    rcases List.mem_append.mp hr with hr | hr
    · exact rok r (List.mem_append.mpr (.inl hr))
    · rcases List.mem_cons.mp hr with rfl | hr
      · exact rowM_ok no mk7_ok
      · exact rh r hr) (by simp only [List.length_append, List.length_cons, List.length_map, List.length_nil]; omega), ?_⟩
  have XM : MPre ms [] := by
    have := X.cutM ms.length
    rw [List.take_of_length_le (Nat.le_refl _)] at this
    exact this
  show runF sp__law_said [.str (li (ms.map rowM ++ (([] : List Hnd).map rowH ++ rowM (nm, mk7) :: hs.map rowH)))] _ _ _ _
  refine said_row XM (fun r hr => by
    rcases List.mem_cons.mp hr with rfl | hr
    · exact rowM_ok no mk7_ok
    · exact rh r hr) (by rw [List.length_map]; omega) (noM_dup no mk7_ok (.inl nmm)) fun S3 K3 => ?_
  have e3 : ((ms.length + ([] : List Hnd).length + 1 : Nat) : Int) = (ms.length : Nat) + 1 := by rw [List.length_nil]; omega
  rw [e3]
  have K23 : Keeps S2 S3 := LL.trans K3
  have g3 := K23 _ _ (by simp) g2
  have O3 : OwnAt w wm wh ms hs S3 := ((O.keep K1).up u2 nw.1 nw.2.1 nw.2.2.1).keep K23
  have hp3 := K23 _ _ (by simp) hp2
  have d3 := d2.keep K23
  have U3 : Upd [a, l] S S3 := K1.up.trans (u2.trans K23.up)
  clear a1 a2 a3 a4 a5 L1 L2 L3 L4 L5 LL
  simp_arith [eqT_si2 (str_ok "text"), Bool.not_true, O3.own, own2, O3.han, g3]
  simp_all_arith [S3, p1, q1, B1, a1, L1]
  have e4 : (poD hs).map (fun kv => kD kv.1) = (hs.map (·.nm)).map D.str := by unfold poD; rw [List.map_map, List.map_map]; rfl
  rw [e4] at a1
  rw [L1 _ _ (by simp) g3, a1]
  refine ⟨by simp only [List.length_map]; omega, ?_⟩
  simp_all_arith [B1, p2, q2, B2, a2, L2]
  rw [← List.map_append] at a2
  have pf2 : p2 ∉ [a, l] := (d3.keep L1).free q2
  refine next3 (d3.keep (L1.trans L2)) fun v2 S4 v20 v21 d4 u4 => ?_
  have g4 := u4 _ _ pf2 a2
  have hp4 := u4 _ _ nw.2.2.2 ((L1.trans L2) _ _ (by simp) hp3)
  have n2 : (0 : Int) < (((ms.map (·.1) ++ hs.map (·.nm)).length : Nat) : Int) := by rw [List.length_append, List.length_map]; omega
  have mv2 := mod_lt (i := v2) n2
  obtain ⟨j, hj⟩ : ∃ j : Nat, v2 % (((ms.map (·.1) ++ hs.map (·.nm)).length : Nat) : Int) = (j : Int) := ⟨(v2 % (((ms.map (·.1) ++ hs.map (·.nm)).length : Nat) : Int)).toNat, by omega⟩
  rw [hj] at mv2
  have jm : j < (ms.map (·.1) ++ hs.map (·.nm)).length := by omega
  have at2 : atI ((ms.map (·.1) ++ hs.map (·.nm)).map D.str) (j : Int) = some (.str ((ms.map (·.1) ++ hs.map (·.nm))[j])) := by
    rw [atI_nat' (by omega), Int.toNat_natCast, List.getElem?_map, List.getElem?_eq_getElem jm]; rfl
  have nmm2 : (ms.map (·.1) ++ hs.map (·.nm))[j] ∈ ms.map (·.1) ++ hs.map (·.nm) := List.getElem_mem jm
  generalize (ms.map (·.1) ++ hs.map (·.nm))[j] = nm2 at *
  have nmm2' := List.mem_append.mp nmm2
  have no2 : NameOk nm2 := by
    rcases nmm2' with h | h
    · obtain ⟨x, hx, rfl⟩ := List.mem_map.mp h
      exact (X.mo x hx).2
    · obtain ⟨x, hx, rfl⟩ := List.mem_map.mp h
      exact (X.ho x hx).2
  have ho : (Hnd.mk nm2 7 7).Ok := ⟨by simp, by simp, by simp, by simp⟩
  have ln2 := no2.l2
  have l3 : (Str.ofString "hand ").length + nm2.length ≤ sizeLine := by
    have : (Str.ofString "hand ").length = 5 := by decide
    omega
  have l4 : (Str.ofString "hand " ++ nm2).length + (Str.ofString " 7 7").length ≤ sizeLine := by
    rw [tlA]
    have : (Str.ofString "hand ").length = 5 := by decide
    have : (Str.ofString " 7 7").length = 4 := by decide
    omega
  simp_arith [g4, List.length_map, n2, hj, at2, l3, l4, hp4, rowh7]
  simp_all_arith [S4, p6, q6, C1, c1, M1]
  simp_all_arith! [M1, hp4]
  rw [hp4, c1]
  refine ⟨by simp only [List.length_map, List.length_singleton]; omega, ?_⟩
  simp_all_arith [C1, p7, q7, C2, c2, M2]
  rw [c2]
  dsimp only
  have em : (ms.map rowM ++ hs.map rowH).map D.str ++ [D.str (rowH ⟨nm2, 7, 7⟩)] = (ms.map rowM ++ (hs.map rowH ++ rowH ⟨nm2, 7, 7⟩ :: [])).map D.str := by simp
  rw [em, strsM]
  dsimp only
  have rr : ∀ r ∈ ms.map rowM ++ (hs.map rowH ++ rowH ⟨nm2, 7, 7⟩ :: []), RowOk r := fun r hr => by
    rw [← List.append_assoc] at hr
    rcases List.mem_append.mp hr with hr | hr
    · exact rok r hr
    · rw [List.mem_singleton.mp hr]; exact rowH_ok (h := ⟨nm2, 7, 7⟩) no2 ho
  refine ⟨join_fits rr (by simp only [List.length_append, List.length_cons, List.length_map, List.length_nil]; omega), ?_⟩
  show runF sp__law_said [.str (li (ms.map rowM ++ (hs.map rowH ++ rowH ⟨nm2, 7, 7⟩ :: [])))] _ _ _ _
  refine said_row X.pre (fun r hr => by rw [List.mem_singleton.mp hr]; exact rowH_ok (h := ⟨nm2, 7, 7⟩) no2 ho) (by simp) (noH_dup (h := ⟨nm2, 7, 7⟩) no2 ho nmm2') fun S5 K5 => ?_
  have hp5 := (M2.trans K5) _ _ (by simp) hp4
  have e5 : ((ms.length + hs.length + 1 : Nat) : Int) = (((ms.map rowM ++ hs.map rowH).length : Nat) : Int) + 1 := by rw [List.length_append, List.length_map, List.length_map]; omega
  rw [e5]
  simp_arith [hp5, List.length_map, eqT_si2 (str_ok "text")]
  have KK : Keeps S4 S5 := M1.trans (M2.trans K5)
  exact k S5 (d4.keep KK) (U3.trans ((Keeps.up (L1.trans L2)).trans (u4.trans (Keeps.up KK))))

/-! ### one more, one too many -/
def mk0 : Mk := ⟨.su, 0, 0, 0, 1, 1, 1⟩
theorem mk0_ok : mk0.Ok := ⟨by decide, by decide, by decide, by decide, ⟨by decide, by decide, by decide, by decide⟩, nofun, nofun, fun _ => ⟨by decide, by decide, by decide, by decide⟩⟩
theorem zq_ok : NameOk (Str.ofString "zqzq") := ⟨by decide, by decide, by decide⟩
theorem mk0_row : Str.ofString "maker zqzq sum 0 0 0/1 1 1" = rowM (Str.ofString "zqzq", mk0) := by decide +kernel
theorem hd0_row : Str.ofString "hand zqzq 0 0" = rowH ⟨Str.ofString "zqzq", 0, 0⟩ := by decide +kernel
theorem hd0_ok : (Hnd.mk (Str.ofString "zqzq") 0 0).Ok := ⟨by decide, by decide, by decide, by decide⟩
theorem MTxt.addM {ms : List (Str × Mk)} {hs : List Hnd} (X : MTxt ms hs) (h6 : ms.length ≠ 6) (n1 : ∀ x ∈ ms, x.1 ≠ "zqzq") (n2 : ∀ x ∈ hs, x.nm ≠ "zqzq") : MTxt (ms ++ [(Str.ofString "zqzq", mk0)]) hs := by
  have m6 := X.m6
  refine ⟨by simp, by rw [List.length_append]; simp; omega, X.h6, fun x hx => ?_, X.ho, ?_⟩
  · rcases List.mem_append.mp hx with hx | hx
    · exact X.mo x hx
    · rw [List.mem_singleton.mp hx]; exact ⟨mk0_ok, zq_ok⟩
  · have nd := X.nd
    rw [List.map_append, List.append_assoc]
    rw [List.nodup_append] at nd ⊢
    refine ⟨nd.1, ?_, fun a ha b hb => ?_⟩
    · show (Str.ofString "zqzq" :: hs.map (·.nm)).Nodup
      rw [List.nodup_cons]
      refine ⟨fun z => ?_, nd.2.1⟩
      obtain ⟨x, hx, e⟩ := List.mem_map.mp z
      exact n2 x hx e
    · rcases List.mem_append.mp hb with hb | hb
      · rw [List.map_cons, List.map_nil, List.mem_singleton] at hb
        obtain ⟨x, hx, rfl⟩ := List.mem_map.mp ha
        rw [hb]
        exact n1 x hx
      · exact nd.2.2 a ha b hb
theorem MTxt.addH {ms : List (Str × Mk)} {hs : List Hnd} (X : MTxt ms hs) (h6 : hs.length ≠ 6) (n1 : ∀ x ∈ ms, x.1 ≠ "zqzq") (n2 : ∀ x ∈ hs, x.nm ≠ "zqzq") : MTxt ms (hs ++ [⟨Str.ofString "zqzq", 0, 0⟩]) := by
  have m6 := X.h6
  refine ⟨X.m0, X.m6, by rw [List.length_append]; simp; omega, X.mo, fun x hx => ?_, ?_⟩
  · rcases List.mem_append.mp hx with hx | hx
    · exact X.ho x hx
    · rw [List.mem_singleton.mp hx]; exact ⟨hd0_ok, zq_ok⟩
  · have nd := X.nd
    rw [List.map_append]
    rw [List.nodup_append] at nd ⊢
    refine ⟨nd.1, ?_, fun a ha b hb => ?_⟩
    · rw [List.nodup_append]
      refine ⟨nd.2.1, by simp, fun a ha b hb => ?_⟩
      rw [List.map_cons, List.map_nil, List.mem_singleton] at hb
      obtain ⟨x, hx, rfl⟩ := List.mem_map.mp ha
      rw [hb]
      exact n2 x hx
    · rcases List.mem_append.mp hb with hb | hb
      · exact nd.2.2 a ha b hb
      · rw [List.map_cons, List.map_nil, List.mem_singleton] at hb
        obtain ⟨x, hx, rfl⟩ := List.mem_map.mp ha
        rw [hb]
        exact n1 x hx
/-- what is told of a text, good or not -/
def resD (c : Bool) (t : Str) (n : Int) : D := if c then .tup [.str "text", .int n] else .tup [.str "", .str t]
theorem eqT_res {S : Sto} {c : Bool} {t : Str} {n : Int} (h : c = false → PyData.strOk t = true) : N.eqT S (resD c t n) (resD c t n) = some true := by
  cases c with
  | true => exact eqT_si2 (str_ok "text")
  | false => exact eqT_ss2 (str_ok "") (h rfl)
theorem res_at {c : Bool} {t : Str} {n : Int} : atI ([.tup [.str "", .str t], .tup [.str "text", .int n]] : List D) (if c then 1 else 0) = some (resD c t n) := by
  cases c <;> rfl
theorem full_ok {w wm wh pr : Addr} {ms : List (Str × Mk)} {hs : List Hnd} {S : Sto} {Q : NQ} {E} {T : TgQ Q E} (O : OwnAt w wm wh ms hs S) (X : MTxt ms hs) (n1 : ∀ x ∈ ms, x.1 ≠ "zqzq") (n2 : ∀ x ∈ hs, x.nm ≠ "zqzq") (hp : S pr = some (.lst ((ms.map rowM ++ hs.map rowH).map D.str)))
    (k : ∀ S', Keeps S S' → Q (.bl true) S') : runF sp__law_full [.ref w, .ref pr] S Q E T := by
  have sl : (10000 : Nat) ≤ sizeLine := by decide
  have m6 := X.m6
  have h6 := X.h6
  have rok : ∀ r ∈ ms.map rowM ++ hs.map rowH, RowOk r := X.rows
  have rh : ∀ r ∈ hs.map rowH, RowOk r := fun r hr => rok r (List.mem_append.mpr (.inr hr))
  have rm : ∀ r ∈ ms.map rowM, RowOk r := fun r hr => rok r (List.mem_append.mpr (.inl hr))
  have lr : (ms.map rowM ++ hs.map rowH).length ≤ 12 := by
    rw [List.length_append, List.length_map, List.length_map]; omega
  have lma : (maD ms).length = ms.length := by unfold maD; rw [List.length_map]
  have lpo : (poD hs).length = hs.length := by unfold poD; rw [List.length_map]
  have row0 : RowOk (rowM (Str.ofString "zqzq", mk0)) := rowM_ok zq_ok mk0_ok
  have rowh0 : RowOk (rowH ⟨Str.ofString "zqzq", 0, 0⟩) := rowH_ok (h := ⟨Str.ofString "zqzq", 0, 0⟩) zq_ok hd0_ok
  simp_arith! [sp__law_full, m__law_full]
  simp_arith [O.own, own1, own2, O.mak, O.han, hp, cut_to, Option.map_some, mk0_row, hd0_row]
  rw [lma, lpo]
  simp_all_arith [S, p1, q1, A1, a1, L1]
  simp_all_arith [A1, p2, q2, A2, a2, L2]
  rw [L2 _ _ (by simp) a1, a2]
  refine ⟨by simp only [List.length_take, List.length_map, List.length_append, List.length_singleton]; omega, ?_⟩
  simp_all_arith [A2, p3, q3, A3, a3, L3]
  rw [L3 _ _ (by simp) (L2 _ _ (by simp) (L1 _ _ (by simp) hp))]
  dsimp only
  rw [cut_from]
  simp_all_arith [A3, p4, q4, A4, a4, L4]
  rw [L4 _ _ (by simp) a3, a4]
  refine ⟨by simp only [List.length_take, List.length_drop, List.length_map, List.length_append, List.length_singleton]; omega, ?_⟩
  simp_all_arith [A4, p5, q5, A5, a5, L5]
  rw [a5]
  dsimp only
  have LL : Keeps S A5 := (((L1.trans L2).trans L3).trans L4).trans L5
  rw [insL_map, strsM, insL_mid]
  dsimp only
  refine ⟨join_fits (fun r hr => by
    rcases List.mem_append.mp hr with hr | hr
    · exact rok r (List.mem_append.mpr (.inl hr))
    · rcases List.mem_cons.mp hr with rfl | hr
      · exact row0
      · exact rh r hr) (by simp only [List.length_append, List.length_cons, List.length_map, List.length_nil]; omega), ?_⟩
  clear a1 a2 a3 a4 a5 L1 L2 L3 L4 L5
  have XM : MPre ms [] := by
    have := X.cutM ms.length
    rw [List.take_of_length_le (Nat.le_refl _)] at this
    exact this
  have et1 : ms.length ≠ 6 → mtext (ms ++ [(Str.ofString "zqzq", mk0)]) hs = li (ms.map rowM ++ (([] : List Hnd).map rowH ++ rowM (Str.ofString "zqzq", mk0) :: hs.map rowH)) := fun _ => by
    unfold mtext
    rw [List.map_append, List.append_assoc]; rfl
  generalize hT : li (ms.map rowM ++ (([] : List Hnd).map rowH ++ rowM (Str.ofString "zqzq", mk0) :: hs.map rowH)) = T1 at *
  have sk1 : decide (ms.length = 6) = false → PyData.strOk T1 = true := fun h => by
    have := of_decide_eq_false h
    rw [← et1 this]
    exact sk_text (X.addM this n1 n2)
  have hs1 : ∀ (Q : NQ) (E : Str → Option Addr → Sto → Prop) (T : TgQ Q E) (S : Sto), (∀ S', Keeps S S' → Q (resD (decide (ms.length = 6)) T1 7) S') → runF sp__law_said [.str T1] S Q E T := fun Q E T S kk => by
    by_cases c : ms.length = 6
    · rw [decide_eq_true c] at kk
      rw [← hT]
      refine said_row XM (fun r hr => by
        rcases List.mem_cons.mp hr with rfl | hr
        · exact row0
        · exact rh r hr) (by rw [List.length_map]; omega) (noM_full zq_ok mk0_ok (.inl c)) fun S3 K3 => ?_
      rw [c]
      exact kk S3 K3
    · rw [decide_eq_false c] at kk
      rw [← et1 c]
      refine said_ok (X.addM c n1 n2) fun S3 K3 => ?_
      rw [et1 c]
      exact kk S3 K3
  show runF sp__law_said [.str (li (ms.map rowM ++ (([] : List Hnd).map rowH ++ rowM (Str.ofString "zqzq", mk0) :: hs.map rowH)))] _ _ _ _
  rw [hT]
  refine hs1 _ _ _ _ fun S3 K3 => ?_
  have hp3 := (LL.trans K3) _ _ (by simp) hp
  simp_arith []
  have ed1 : decide (((ms.length : Nat) : Int) = 6) = decide (ms.length = 6) := decide_eq_decide.mpr (by omega)
  have ed2 : decide (((hs.length : Nat) : Int) = 6) = decide (hs.length = 6) := decide_eq_decide.mpr (by omega)
  simp_all_arith [S3, p6, q6, B1, b1, M1]
  replace b1 : B1 p6 = some (.lst [.tup [.str "", .str T1], .tup [.str "text", .int 7]]) := by rw [← hT]; exact b1
  rw [b1, ed1]
  dsimp only
  rw [res_at]
  dsimp only
  rw [eqT_res sk1]
  dsimp only
  rw [Bool.not_true]
  dsimp only
  have hpB := M1 _ _ (by simp) hp3
  simp_all_arith [B1, p7, q7, B2, b2, M2]
  simp_all_arith! [M2, hpB]
  rw [hpB, b2]
  refine ⟨by simp only [List.length_map, List.length_singleton]; omega, ?_⟩
  simp_all_arith [B2, p8, q8, B3, b3, M3]
  rw [b3]
  dsimp only
  have em : (ms.map rowM ++ hs.map rowH).map D.str ++ [D.str (Str.ofString "hand zqzq 0 0")] = (ms.map rowM ++ (hs.map rowH ++ rowH ⟨Str.ofString "zqzq", 0, 0⟩ :: [])).map D.str := by rw [hd0_row]; simp
  rw [em, strsM]
  dsimp only
  have rr : ∀ r ∈ ms.map rowM ++ (hs.map rowH ++ rowH ⟨Str.ofString "zqzq", 0, 0⟩ :: []), RowOk r := fun r hr => by
    rw [← List.append_assoc] at hr
    rcases List.mem_append.mp hr with hr | hr
    · exact rok r hr
    · rw [List.mem_singleton.mp hr]; exact rowh0
  refine ⟨join_fits rr (by simp only [List.length_append, List.length_cons, List.length_map, List.length_nil]; omega), ?_⟩
  have et2 : mtext ms (hs ++ [⟨Str.ofString "zqzq", 0, 0⟩]) = li (ms.map rowM ++ (hs.map rowH ++ rowH ⟨Str.ofString "zqzq", 0, 0⟩ :: [])) := by
    unfold mtext
    rw [List.map_append]; rfl
  show runF sp__law_said [.str (li (ms.map rowM ++ (hs.map rowH ++ rowH ⟨Str.ofString "zqzq", 0, 0⟩ :: [])))] _ _ _ _
  generalize hT2 : li (ms.map rowM ++ (hs.map rowH ++ rowH ⟨Str.ofString "zqzq", 0, 0⟩ :: [])) = T2 at *
  have sk2 : decide (hs.length = 6) = false → PyData.strOk T2 = true := fun h => by
    have := of_decide_eq_false h
    rw [← et2]
    exact sk_text (X.addH this n1 n2)
  have e5 : ((ms.length + hs.length + 1 : Nat) : Int) = (((ms.map rowM ++ hs.map rowH).length : Nat) : Int) + 1 := by rw [List.length_append, List.length_map, List.length_map]; omega
  have hs2 : ∀ (Q : NQ) (E : Str → Option Addr → Sto → Prop) (T : TgQ Q E) (S : Sto), (∀ S', Keeps S S' → Q (resD (decide (hs.length = 6)) T2 ((((ms.map rowM ++ hs.map rowH).length : Nat) : Int) + 1)) S') → runF sp__law_said [.str T2] S Q E T := fun Q E T S kk => by
    by_cases c : hs.length = 6
    · rw [decide_eq_true c] at kk
      rw [← hT2]
      refine said_row X.pre (fun r hr => by rw [List.mem_singleton.mp hr]; exact rowh0) (by simp) (noH_full (h := ⟨Str.ofString "zqzq", 0, 0⟩) zq_ok hd0_ok (.inl c)) fun S3 K3 => ?_
      rw [e5]
      exact kk S3 K3
    · rw [decide_eq_false c] at kk
      rw [← et2]
      refine said_ok (X.addH c n1 n2) fun S3 K3 => ?_
      rw [et2]
      exact kk S3 K3
  refine hs2 _ _ _ _ fun S4 K4 => ?_
  have hp4 := (M3.trans K4) _ _ (by simp) hpB
  simp_arith [hp4]
  simp_all_arith [S4, p9, q9, B4, b4, M4]
  replace b4 : B4 p9 = some (.lst [.tup [.str "", .str T2], .tup [.str "text", .int ((((ms.map rowM ++ hs.map rowH).length : Nat) : Int) + 1)]]) := by
    rw [List.length_map] at b4
    rw [← hT2]; exact b4
  rw [b4, ed2]
  dsimp only
  rw [res_at]
  dsimp only
  rw [eqT_res sk2]
  dsimp only
  rw [Bool.not_true]
  dsimp only
  have hpC := M4 _ _ (by simp) hp4
  simp_all_arith [B4, p10, q10, B5, b5, M5]
  simp_all_arith! [M5, hpC]
  rw [b5, hpC]
  refine ⟨by simp only [List.length_map, List.length_singleton]; omega, ?_⟩
  simp_all_arith [B5, p11, q11, B6, b6, M6]
  rw [b6]
  dsimp only
  have em2 : [D.str (Str.ofString "hand zqzq 0 0")] ++ (ms.map rowM ++ hs.map rowH).map D.str = (([] : List (Str × Mk)).map rowM ++ (([] : List Hnd).map rowH ++ rowH ⟨Str.ofString "zqzq", 0, 0⟩ :: (ms.map rowM ++ hs.map rowH))).map D.str := by rw [hd0_row]; simp
  rw [em2, strsM]
  dsimp only
  have rr2 : ∀ r ∈ rowH ⟨Str.ofString "zqzq", 0, 0⟩ :: (ms.map rowM ++ hs.map rowH), RowOk r := fun r hr => by
    rcases List.mem_cons.mp hr with rfl | hr
    · exact rowh0
    · exact rok r hr
  refine ⟨join_fits rr2 (by simp only [List.length_append, List.length_cons, List.length_map, List.length_nil]; omega), ?_⟩
  show runF sp__law_said [.str (li (([] : List (Str × Mk)).map rowM ++ (([] : List Hnd).map rowH ++ rowH ⟨Str.ofString "zqzq", 0, 0⟩ :: (ms.map rowM ++ hs.map rowH))))] _ _ _ _
  refine said_row (ms := []) (hs := []) ⟨fun z => absurd rfl z, by simp, by simp, (fun x hx => by cases hx), (fun x hx => by cases hx), by simp⟩ rr2 (by omega) (noH_full (h := ⟨Str.ofString "zqzq", 0, 0⟩) zq_ok hd0_ok (.inr rfl)) fun S5 K5 => ?_
  have e6 : ((([] : List (Str × Mk)).length + ([] : List Hnd).length + 1 : Nat) : Int) = 1 := rfl
  rw [e6]
  have hp5 := (M6.trans K5) _ _ (by simp) hpC
  have KK : Keeps S S5 := LL.trans (K3.trans (M1.trans (M2.trans (M3.trans (K4.trans (M4.trans (M5.trans (M6.trans K5))))))))
  simp_arith [eqT_si2 (str_ok "text"), Bool.not_true]
  by_cases h0 : hs.length = 0
  · have e7 : decide (((hs.length : Nat) : Int) = 0) = true := decide_eq_true (by omega)
    rw [e7]
    exact k S5 KK
  · have e7 : decide (((hs.length : Nat) : Int) = 0) = false := decide_eq_false (by omega)
    have hne : hs ≠ [] := fun z => h0 (by rw [z]; rfl)
    simp_arith [e7, hp5]
    simp_all_arith [S5, p12, q12, C1, c1, N1]
    simp_all_arith! [N1, hp5]
    rw [hp5, c1]
    refine ⟨by simp only [List.length_map, List.length_singleton]; omega, ?_⟩
    simp_all_arith [C1, p13, q13, C2, c2, N2]
    rw [c2]
    dsimp only
    have em3 : (ms.map rowM ++ hs.map rowH).map D.str ++ [D.str (Str.ofString "maker zqzq sum 0 0 0/1 1 1")] = (ms.map rowM ++ (hs.map rowH ++ rowM (Str.ofString "zqzq", mk0) :: [])).map D.str := by rw [mk0_row]; simp
    rw [em3, strsM]
    dsimp only
    have rr3 : ∀ r ∈ ms.map rowM ++ (hs.map rowH ++ rowM (Str.ofString "zqzq", mk0) :: []), RowOk r := fun r hr => by
      rw [← List.append_assoc] at hr
      rcases List.mem_append.mp hr with hr | hr
      · exact rok r hr
      · rw [List.mem_singleton.mp hr]; exact row0
    refine ⟨join_fits rr3 (by simp only [List.length_append, List.length_cons, List.length_map, List.length_nil]; omega), ?_⟩
    show runF sp__law_said [.str (li (ms.map rowM ++ (hs.map rowH ++ rowM (Str.ofString "zqzq", mk0) :: [])))] _ _ _ _
    refine said_row X.pre (fun r hr => by rw [List.mem_singleton.mp hr]; exact row0) (by simp) (noM_full zq_ok mk0_ok (.inr hne)) fun S6 K6 => ?_
    have hp6 := (N2.trans K6) _ _ (by simp) hp5
    rw [e5]
    simp_arith [hp6, List.length_map, eqT_si2 (str_ok "text")]
    exact k S6 (KK.trans (N1.trans (N2.trans K6)))

/-! ### the law -/
theorem said_odd {d : D} {S : Sto} {Q : NQ} {E} {T : TgQ Q E} (h : Kn S d) (n : isS d = false) (k : ∀ S', Keeps S S' → Q (.tup [.str "text", .int 0]) S') : runF sp__law_said [d] S Q E T :=
  said_no (fun Q E T kk => read_none h n kk) k
theorem pre0 : MPre [] [] := ⟨fun z => absurd rfl z, by simp, by simp, (fun x hx => by cases hx), (fun x hx => by cases hx), by simp⟩
theorem said_first {bad : Str} {rest : List Str} {S : Sto} {Q : NQ} {E} {T : TgQ Q E} (hr : ∀ r ∈ bad :: rest, RowOk r) (lr : rest.length ≤ 20) (hb : NoPut [] [] bad) (k : ∀ S', Keeps S S' → Q (.tup [.str "text", .int 1]) S') : runF sp__law_said [.str (li (bad :: rest))] S Q E T :=
  said_row (ms := []) (hs := []) pre0 hr lr hb k
theorem wrong_nil : Wrong (Str.ofString "") := wrong_of (by decide +kernel)
theorem a11 : Str.ofString "hand a 1 1" = rowH ⟨Str.ofString "a", 1, 1⟩ := by decide +kernel
theorem a_ok : NameOk (Str.ofString "a") := ⟨by decide, by decide, by decide⟩
theorem a11_ok : (Hnd.mk (Str.ofString "a") 1 1).Ok := ⟨by decide, by decide, by decide, by decide⟩
def lastF (z : D) : D := .tup [.str "text", .int 1]
theorem law_run {ns : List Int} {S : Sto} {Q : NQ} {E} {T : TgQ Q E} (h : ns.length ≤ 63) (k : ∀ S', Q (.bl true) S') : runF sp_law [.rol (ns.map D.int)] S Q E T := by
  simp_arith! [sp_law, m_law]
  simp_arith []
  have sl : (10000 : Nat) ≤ sizeLine := by decide
  refine runL_inv (fun e S' => ∃ x1 x2 x3 x4 x5 x6 x7 x8, e = [some (.rol (ns.map D.int)), x1, x2, x3, x4, x5, x6, x7, x8])
    (fun e S h => trivial) (fun e S1 h => ?_) ?_ (fun x hx e S1 C h hC => ?_)
  · obtain ⟨x1, x2, x3, x4, x5, x6, x7, x8, rfl⟩ := h
    simp_arith []
    intro p hp
    refine runC_keep lastF hp (fun _ _ => trivial) (by decide) (fun x hx S Y N K hY => ?_) fun S2 K2 g2 => ?_
    · have e1 : Str.ofString "" = li [Str.ofString ""] := by decide +kernel
      have e2 : Str.ofString "\n" = li [Str.ofString "", Str.ofString ""] := by decide +kernel
      have e3 : Str.ofString "hand a 1 1" = li [rowH ⟨Str.ofString "a", 1, 1⟩] := by decide +kernel
      have hz : ∃ z, x = .str z ∧ ∃ bad rest, z = li (bad :: rest) ∧ (∀ r ∈ bad :: rest, RowOk r) ∧ rest.length ≤ 20 ∧ NoPut [] [] bad := by
        simp only [List.mem_cons, List.not_mem_nil, or_false] at hx
        rcases hx with rfl | rfl | rfl
        · exact ⟨_, rfl, _, _, e1, fun r hr => by rw [List.mem_singleton.mp hr]; exact wrong_nil.row, by simp, wrong_nil.no _ _⟩
        · refine ⟨_, rfl, _, _, e2, fun r hr => ?_, by simp, wrong_nil.no _ _⟩
          simp only [List.mem_cons, List.not_mem_nil, or_false, or_self] at hr
          rw [hr]; exact wrong_nil.row
        · exact ⟨_, rfl, _, _, e3, fun r hr => by rw [List.mem_singleton.mp hr]; exact rowH_ok (h := ⟨Str.ofString "a", 1, 1⟩) a_ok a11_ok, by simp, noH_full (h := ⟨Str.ofString "a", 1, 1⟩) a_ok a11_ok (.inr rfl)⟩
      obtain ⟨z, rfl, bad, rest, rfl, q1, q2, q3⟩ := hz
      simp_arith []
      exact said_first q1 q2 q3 fun S3 K3 => hY S3 K3
    · simp_arith []
      simp_all_arith [S2, p3, hp3, S3, g3, K3]
      rw [g3]
      dsimp only
      refine ⟨⟨by decide, by decide, by decide⟩, ?_⟩
      simp_all_arith [S3, p4, hp4, S4, g4, K4]
      have g24 := (Upd.trans K3 K4) _ _ (by simp) g2
      have e5 : N.eqT S4 (.ref p) (.ref p4) = some true := by
        have h1 : S4 p = some (.lst [.tup [.str "text", .int 1], .tup [.str "text", .int 1], .tup [.str "text", .int 1]]) := g24
        have h2 : S4 p4 = some (.lst [.tup [.str "text", .int 1], .tup [.str "text", .int 1], .tup [.str "text", .int 1]]) := g4
        unfold N.eqT
        simp only [pyT, h1, h2, pyDs, pyD, Option.map_some]
        have c' : PyData.canLay0 (.list [.tuple [.str "text", .int 1], .tuple [.str "text", .int 1], .tuple [.str "text", .int 1]]) = true := by simp [PyData.canLay0, PyData.canLayAll0, str_ok]
        have h : SeqAt.shaped (.list [.tuple [.str "text", .int 1], .tuple [.str "text", .int 1], .tuple [.str "text", .int 1]]) = true := by
          unfold SeqAt.shaped
          rw [c']
          simp [PyData.depth, PyData.depthAll]
        rw [h]
        simp only [SeqAt.eqv_refl _ c', Bool.and_self, if_true]
      rw [e5]
      exact k S4
  · exact ⟨_, _, _, _, _, _, _, _, rfl⟩
  · obtain ⟨x1, x2, x3, x4, x5, x6, x7, x8, rfl⟩ := h
    obtain ⟨c, _, rfl⟩ := List.mem_map.mp hx
    simp_arith []
    intro f hf
    have K1 : Keeps S1 (put S1 f (.lst ([c].map D.int))) := Upd.new hf
    have gf : put S1 f (.lst ([c].map D.int)) f = some (.lst ([c].map D.int)) := put_same
    show runF _ _ (put S1 f (.lst ([c].map D.int))) _ _ _
    generalize put S1 f (.lst ([c].map D.int)) = S2 at *
    refine state3 gf fun a c' l S3 ha hc hl st3 K3 => ?_
    try simp_arith []
    refine market3 st3 fun w wm wh ms hs S4 hw hwm hwh O4 X z1 z2 st4 u4 => ?_
    try simp_arith []
    refine law_rows_ok O4 X fun pr S5 hpr gr K5 => ?_
    have O5 := O4.keep K5
    have st5 := st4.up K5 (by simp) (by simp) (by simp)
    have afree : ∀ {p : Addr}, S4 p = Option.none → p ∉ [a, l] := fun hp => (D3.refl st4).free hp
    have wfree : ∀ {p : Addr}, S3 p = Option.none → p ∉ [a, l] := fun hp => (D3.refl st3).free hp
    have nw : w ∉ [a, l] ∧ wm ∉ [a, l] ∧ wh ∉ [a, l] ∧ pr ∉ [a, l] := ⟨wfree hw, wfree hwm, wfree hwh, afree hpr⟩
    have m6 := X.m6
    have h6 := X.h6
    have rok : ∀ r ∈ ms.map rowM ++ hs.map rowH, RowOk r := X.rows
    have lr : (ms.map rowM ++ hs.map rowH).length ≤ 12 := by
      rw [List.length_append, List.length_map, List.length_map]; omega
    try simp_arith []
    refine wrong_ok (D3.refl st5) gr lr rok fun p f bad rest S6 g6 hf6 wb rr lrest d6 u6 => ?_
    have O6 : OwnAt w wm wh ms hs S6 := O5.up u6 nw.1 nw.2.1 nw.2.2.1
    have gr6 := u6 _ _ nw.2.2.2 gr
    have hf6' : f ≤ ms.length + hs.length := by
      rw [List.length_append, List.length_map, List.length_map] at hf6; exact hf6
    have rr2 : ∀ r ∈ (ms.map rowM ++ hs.map rowH).take f ++ bad :: rest, RowOk r := fun r hr => by
      rcases List.mem_append.mp hr with hr | hr
      · exact rok r (List.mem_of_mem_take hr)
      · rcases List.mem_cons.mp hr with rfl | hr
        · exact wb.row
        · exact rr r hr
    simp_arith [g6]
    rw [strsM]
    dsimp only
    refine ⟨join_fits rr2 (by simp only [List.length_append, List.length_cons, List.length_take]; omega), ?_⟩
    show runF sp__law_said [.str (li ((ms.map rowM ++ hs.map rowH).take f ++ bad :: rest))] _ _ _ _
    refine said_cut X hf6' wb rr lrest fun S7 K7 => ?_
    have O7 := O6.keep K7
    have gr7 := K7 _ _ (by simp) gr6
    have d7 := d6.keep K7
    simp_arith [eqT_si2 (str_ok "text"), Bool.not_true]
    refine twice_ok d7 O7 X gr7 nw fun S8 d8 u8 => ?_
    have O8 : OwnAt w wm wh ms hs S8 := O7.up u8 nw.1 nw.2.1 nw.2.2.1
    have gr8 := u8 _ _ nw.2.2.2 gr7
    simp_arith [Bool.not_true]
    refine full_ok O8 X z1 z2 gr8 fun S9 K9 => ?_
    have gr9 := K9 _ _ (by simp) gr8
    have d9 := d8.keep K9
    have et : mtext ms hs = li (ms.map rowM ++ hs.map rowH) := rfl
    have jf := join_fits rok (by omega)
    simp_arith [Bool.not_true, gr9, strsM, jf]
    show runF sp__law_said [.str (mtext ms hs)] _ _ _ _
    refine said_ok X fun S10 K10 => ?_
    have gr10 := K10 _ _ (by simp) gr9
    have d10 := d9.keep K10
    simp_arith [gr10, strsM, jf]
    have eq10 : N.eqT S10 (.tup [.str "", .str (mtext ms hs)]) (.tup [.str "", .str (Txt.join (Str.ofString "\n") (ms.map rowM ++ hs.map rowH))]) = some true := eqT_ss2 (str_ok "") (sk_text X)
    rw [eq10]
    dsimp only
    rw [Bool.not_true]
    dsimp only
    simp_all_arith [S10, p1, q1, B1, b1, M1]
    rw [M1 _ _ (by simp) gr10, b1]
    refine ⟨by simp only [List.length_map, List.length_singleton]; omega, ?_⟩
    simp_all_arith [B1, p2, q2, B2, b2, M2]
    rw [b2]
    dsimp only
    have em : (ms.map rowM ++ hs.map rowH).map D.str ++ [D.str (Str.ofString "")] = (ms.map rowM ++ (hs.map rowH ++ Str.ofString "" :: [])).map D.str := by simp
    rw [em, strsM]
    dsimp only
    have rr3 : ∀ r ∈ ms.map rowM ++ (hs.map rowH ++ Str.ofString "" :: []), RowOk r := fun r hr => by
      rw [← List.append_assoc] at hr
      rcases List.mem_append.mp hr with hr | hr
      · exact rok r hr
      · rw [List.mem_singleton.mp hr]; exact wrong_nil.row
    refine ⟨join_fits rr3 (by simp only [List.length_append, List.length_cons, List.length_map, List.length_nil]; omega), ?_⟩
    show runF sp__law_said [.str (li (ms.map rowM ++ (hs.map rowH ++ Str.ofString "" :: [])))] _ _ _ _
    refine said_row X.pre (fun r hr => by rw [List.mem_singleton.mp hr]; exact wrong_nil.row) (by simp) (wrong_nil.no _ _) fun S11 K11 => ?_
    have KK := M1.trans (M2.trans K11)
    have gr11 := KK _ _ (by simp) gr10
    have d11 := d10.keep KK
    have e5 : ((ms.length + hs.length + 1 : Nat) : Int) = (((ms.map rowM ++ hs.map rowH).length : Nat) : Int) + 1 := by rw [List.length_append, List.length_map, List.length_map]; omega
    rw [e5]
    simp_arith [gr11, List.length_map, eqT_si2 (str_ok "text"), Bool.not_true]
    simp_all_arith [S11, q, hq, C1, c1, N1]
    simp_all_arith [C1, o, ho, C2, c2, N2]
    have NN := N1.trans N2
    have gr12 := NN _ _ (by simp) gr11
    have c12 := N2 _ _ (by simp) c1
    have d12 := d11.keep NN
    have of : o ∉ [a, l] := (d11.keep N1).free ho
    have qf : q ∉ [a, l] := d11.free hq
    refine next3 d12 fun v S13 v0 v1 d13 u13 => ?_
    have c13 := u13 _ _ of c2
    have e6 : (0 : Int) < 6 := by decide
    have mv := mod_lt (i := v) e6
    obtain ⟨odd, ho1, ho2, ho3⟩ : ∃ odd, atI ([.non, .int 5, .ref pr, .bl true, .ref q, .tup [.str "hand a 1 1"]] : List D) (v % 6) = some odd ∧ Kn S13 odd ∧ isS odd = false := by
      have c6 : v % 6 = 0 ∨ v % 6 = 1 ∨ v % 6 = 2 ∨ v % 6 = 3 ∨ v % 6 = 4 ∨ v % 6 = 5 := by omega
      rcases c6 with w | w | w | w | w | w <;> rw [w]
      · exact ⟨_, rfl, trivial, rfl⟩
      · exact ⟨_, rfl, trivial, rfl⟩
      · exact ⟨_, rfl, .inl ⟨_, u13 _ _ nw.2.2.2 gr12⟩, rfl⟩
      · exact ⟨_, rfl, trivial, rfl⟩
      · exact ⟨_, rfl, .inr ⟨_, u13 _ _ qf c12⟩, rfl⟩
      · exact ⟨_, rfl, trivial, rfl⟩
    simp_arith [c13, e6, ho1]
    refine said_odd ho2 ho3 fun S14 K14 => ?_
    simp_arith [eqT_si2 (str_ok "text"), Bool.not_true]
    exact hC _ _ ⟨_, _, _, _, _, _, _, _, rfl⟩
theorem law_ok (ns : List Int) (h : ns.length ≤ 63) : sp_law [.rol (ns.map D.int)] (fun _ => Option.none) (fun d _ => d = .bl true) (fun _ _ _ => False) :=
  law_run (Q := fun d _ => d = .bl true) (E := fun _ _ _ => False) (T := {}) h fun _ => rfl

end K12

set_option Elab.async false
set_option linter.all false
set_option maxRecDepth 100000
set_option maxHeartbeats 0
namespace K12
open PySem PySem.Spec PyProof.Rows L2 N
/-! ### the head -/
def fa : List He.Fa := ([.free "ValueError", .free "all", .free "bool", .free "enumerate", .free "int", .free "isinstance", .free "len", .free "list", .free "max", .free "min"] : List He.Fa) ++ ([.free "range", .free "str", .free "sum", .free "tuple", .glo "BadCount", .exc "BadCount", .glo "BadMaker", .exc "BadMaker", .glo "BadRumour", .glo "BadShares"] : List He.Fa) ++ ([.glo "BadWare", .exc "BadWare", .str "FIGURES" "0123456789", .int "MOST" 1000000000000, .int "MOST_BOTTOM" 10000, .int "MOST_FIGURES" 13, .int "MOST_GRAINS" 1000000000000, .int "MOST_HANDS" 6, .int "MOST_MAKERS" 6, .int "MOST_RATE" 1000000] : List He.Fa) ++ ([.int "MOST_SIGNS" 8, .glo "Market", .glo "MartError", .glo "NoLine", .glo "NoName", .exc "NoName", .glo "NoParting", .glo "NoText", .glo "Product", .glo "SIZES"] : List He.Fa) ++ ([.str "SMALL" "abcdefghijklmnopqrstuvwxyz", .glo "Stretch", .glo "Sum", .glo "TooLittle", .glo "TooMuch", .exc "TooMuch", .glo "WARES", .glo "_law_amount", .glo "_law_called_twice", .glo "_law_due"] : List He.Fa) ++ ([.glo "_law_full", .glo "_law_maker_row", .glo "_law_market", .glo "_law_mixed", .glo "_law_names", .glo "_law_next", .glo "_law_plain", .glo "_law_rows", .glo "_law_said", .glo "_law_state"] : List He.Fa) ++ ([.glo "_law_word", .glo "_law_wrong", .glo "_law_wrong_row", .glo "due_in", .glo "hand_row", .glo "is_among", .glo "is_due", .glo "is_name", .glo "is_pair", .glo "is_plain"] : List He.Fa) ++ ([.glo "is_put", .glo "is_whole", .glo "law", .glo "made_or_none", .glo "maker_of", .glo "maker_row", .glo "need_count", .glo "need_ware", .glo "number_in", .glo "plain_in"] : List He.Fa) ++ ([.glo "product_coming", .glo "product_wanted", .glo "put_hand", .glo "put_maker", .glo "read", .glo "rounded_up", .mkr "Market", .mkr "Product", .mkr "Stretch", .mkr "Sum"] : List He.Fa) ++ ([.meth "Product" "called", .meth "Stretch" "called", .meth "Sum" "called", .meth "Product" "plain", .meth "Stretch" "plain", .meth "Sum" "plain", .meth "Market" "text"] : List He.Fa)
def fnl : List He.DefD := ([⟨("NoText", some "__init__"), "__init__", "NoText.__init__", defArgs s_NoText_init, defBody s_NoText_init, defScope s_NoText_init, [], []⟩, ⟨("_law_mixed", none), "_law_mixed", "_law_mixed", defArgs s__law_mixed, defBody s__law_mixed, defScope s__law_mixed, [], []⟩, ⟨("_law_next", none), "_law_next", "_law_next", defArgs s__law_next, defBody s__law_next, defScope s__law_next, [], []⟩, ⟨("hand_row", none), "hand_row", "hand_row", defArgs s_hand_row, defBody s_hand_row, defScope s_hand_row, [], []⟩, ⟨("maker_row", none), "maker_row", "maker_row", defArgs s_maker_row, defBody s_maker_row, defScope s_maker_row, [], []⟩, ⟨("_law_word", none), "_law_word", "_law_word", defArgs s__law_word, defBody s__law_word, defScope s__law_word, [], []⟩] : List He.DefD) ++ ([⟨("is_name", none), "is_name", "is_name", defArgs s_is_name, defBody s_is_name, defScope s_is_name, [], []⟩, ⟨("number_in", none), "number_in", "number_in", defArgs s_number_in, defBody s_number_in, defScope s_number_in, [], []⟩, ⟨("put_hand", none), "put_hand", "put_hand", defArgs s_put_hand, defBody s_put_hand, defScope s_put_hand, [], []⟩, ⟨("is_whole", none), "is_whole", "is_whole", defArgs s_is_whole, defBody s_is_whole, defScope s_is_whole, [], []⟩, ⟨("is_among", none), "is_among", "is_among", defArgs s_is_among, defBody s_is_among, defScope s_is_among, [], []⟩, ⟨("is_pair", none), "is_pair", "is_pair", defArgs s_is_pair, defBody s_is_pair, defScope s_is_pair, [], []⟩] : List He.DefD) ++ ([⟨("is_due", none), "is_due", "is_due", defArgs s_is_due, defBody s_is_due, defScope s_is_due, [], []⟩, ⟨("is_plain", none), "is_plain", "is_plain", defArgs s_is_plain, defBody s_is_plain, defScope s_is_plain, [], []⟩, ⟨("maker_of", none), "maker_of", "maker_of", defArgs s_maker_of, defBody s_maker_of, defScope s_maker_of, [], []⟩, ⟨("made_or_none", none), "made_or_none", "made_or_none", defArgs s_made_or_none, defBody s_made_or_none, defScope s_made_or_none, [], []⟩, ⟨("due_in", none), "due_in", "due_in", defArgs s_due_in, defBody s_due_in, defScope s_due_in, [], []⟩, ⟨("plain_in", none), "plain_in", "plain_in", defArgs s_plain_in, defBody s_plain_in, defScope s_plain_in, [], []⟩] : List He.DefD) ++ ([⟨("put_maker", none), "put_maker", "put_maker", defArgs s_put_maker, defBody s_put_maker, defScope s_put_maker, [], []⟩, ⟨("is_put", none), "is_put", "is_put", defArgs s_is_put, defBody s_is_put, defScope s_is_put, [], []⟩, ⟨("read", none), "read", "read", defArgs s_read, defBody s_read, defScope s_read, [], []⟩, ⟨("_law_said", none), "_law_said", "_law_said", defArgs s__law_said, defBody s__law_said, defScope s__law_said, [], []⟩, ⟨("_law_called_twice", none), "_law_called_twice", "_law_called_twice", defArgs s__law_called_twice, defBody s__law_called_twice, defScope s__law_called_twice, [], []⟩, ⟨("_law_full", none), "_law_full", "_law_full", defArgs s__law_full, defBody s__law_full, defScope s__law_full, [], []⟩] : List He.DefD) ++ ([⟨("_law_amount", none), "_law_amount", "_law_amount", defArgs s__law_amount, defBody s__law_amount, defScope s__law_amount, [], []⟩, ⟨("_law_names", none), "_law_names", "_law_names", defArgs s__law_names, defBody s__law_names, defScope s__law_names, [], []⟩, ⟨("_law_due", none), "_law_due", "_law_due", defArgs s__law_due, defBody s__law_due, defScope s__law_due, [], []⟩, ⟨("_law_plain", none), "_law_plain", "_law_plain", defArgs s__law_plain, defBody s__law_plain, defScope s__law_plain, [], []⟩, ⟨("_law_market", none), "_law_market", "_law_market", defArgs s__law_market, defBody s__law_market, defScope s__law_market, [], []⟩, ⟨("_law_maker_row", none), "_law_maker_row", "_law_maker_row", defArgs s__law_maker_row, defBody s__law_maker_row, defScope s__law_maker_row, [], []⟩] : List He.DefD) ++ ([⟨("_law_rows", none), "_law_rows", "_law_rows", defArgs s__law_rows, defBody s__law_rows, defScope s__law_rows, [], []⟩, ⟨("_law_state", none), "_law_state", "_law_state", defArgs s__law_state, defBody s__law_state, defScope s__law_state, [], []⟩, ⟨("_law_wrong_row", none), "_law_wrong_row", "_law_wrong_row", defArgs s__law_wrong_row, defBody s__law_wrong_row, defScope s__law_wrong_row, [], []⟩, ⟨("_law_wrong", none), "_law_wrong", "_law_wrong", defArgs s__law_wrong, defBody s__law_wrong, defScope s__law_wrong, [], []⟩, ⟨("law", none), "law", "law", defArgs s_law, defBody s_law, defScope s_law, [], []⟩, ⟨("Market", some "__init__"), "__init__", "Market.__init__", defArgs s_Market___init__, defBody s_Market___init__, defScope s_Market___init__, [], []⟩] : List He.DefD) ++ ([⟨("Product", some "__init__"), "__init__", "Maker.__init__", defArgs s_Maker___init__, defBody s_Maker___init__, defScope s_Maker___init__, [], []⟩, ⟨("Stretch", some "__init__"), "__init__", "Maker.__init__", defArgs s_Maker___init__, defBody s_Maker___init__, defScope s_Maker___init__, [], []⟩, ⟨("Sum", some "__init__"), "__init__", "Maker.__init__", defArgs s_Maker___init__, defBody s_Maker___init__, defScope s_Maker___init__, [], []⟩, ⟨("Product", some "called"), "called", "Maker.called", defArgs s_Maker_called, defBody s_Maker_called, defScope s_Maker_called, [], []⟩, ⟨("Stretch", some "called"), "called", "Stretch.called", defArgs s_Stretch_called, defBody s_Stretch_called, defScope s_Stretch_called, [], []⟩, ⟨("Sum", some "called"), "called", "Sum.called", defArgs s_Sum_called, defBody s_Sum_called, defScope s_Sum_called, [], []⟩] : List He.DefD) ++ ([⟨("Product", some "plain"), "plain", "Maker.plain", defArgs s_Maker_plain, defBody s_Maker_plain, defScope s_Maker_plain, [], []⟩, ⟨("Stretch", some "plain"), "plain", "Maker.plain", defArgs s_Maker_plain, defBody s_Maker_plain, defScope s_Maker_plain, [], []⟩, ⟨("Sum", some "plain"), "plain", "Maker.plain", defArgs s_Maker_plain, defBody s_Maker_plain, defScope s_Maker_plain, [], []⟩, ⟨("Market", some "text"), "text", "Market.text", defArgs s_Market_text, defBody s_Market_text, defScope s_Market_text, [], []⟩] : List He.DefD)
def ex (K : PySem.W.Frag) : Bool := (kfW CL K && kiW IC K) && (tupW K "WARES" c_WARES && (tabV K (He.ga K "SIZES") c_SIZES && (xfW K "NoText" "line" && (oexW K "NoText" "line" && (clsW K "Market" && (clsW K "Product" && (clsW K "Stretch" && (clsW K "Sum" && true))))))))
def names : List Str := (["_wall", "MartError", "BadMaker", "BadWare", "BadCount", "TooMuch", "BadShares", "NoText", "NoName", "TooLittle", "BadRumour", "NoParting"] : List Str) ++ (["NoLine", "WARES", "MOST", "MOST_BOTTOM", "MOST_RATE", "is_whole", "is_among", "is_pair", "is_due", "need_ware", "need_count", "rounded_up"] : List Str) ++ (["product_coming", "product_wanted", "Maker", "Product", "Stretch", "Sum", "is_plain", "maker_of", "SMALL", "FIGURES", "MOST_SIGNS", "MOST_FIGURES"] : List Str) ++ (["MOST_GRAINS", "MOST_MAKERS", "MOST_HANDS", "SIZES", "Market", "maker_row", "hand_row", "is_name", "number_in", "due_in", "plain_in", "made_or_none"] : List Str) ++ (["put_maker", "put_hand", "is_put", "read", "_law_cell_at", "_law_mixed", "_law_state", "_law_next", "_law_amount", "_law_due", "_law_names", "_law_plain"] : List Str) ++ (["_law_market", "_law_maker_row", "_law_rows", "_law_word", "_law_wrong_row", "_law_said", "_law_wrong", "_law_full", "_law_called_twice"] : List Str)
abbrev R : PySem.W.OpenRow := PySem.W.OpenLaw.row PySem.Challenge.rw_rumourmart_k12_texts_refused
def tbl : List (Str × List Str) := [("SIZES", c_SIZES.map (·.1))]
abbrev hk : PySem.W.Hook := hookM 6 fa fnl ex tbl
def ob (s : PySem.W.SharedT) : AlM := obsM 6 fa fnl ex tbl (HandSHeadRun.getT s)
theorem ob_eq (s : PySem.W.SharedT) : ob s = hk.obs s.abs := obsM_eq (HandSHeadRun.getT_eq s)
def kq (s : PySem.W.SharedT) : PySem.W.Frag := He.frG (HandSHeadRun.getT s) (asN (HandSHeadRun.getT s) 6)
def pD (w : World) : Prop := ∀ os : OsState, ((HandSHeadRun.endF (HandSHeadRun.stepQ (HandSHeadRun.denQ HandSHeadRun.tabQ) R.prog w) 20000 R.prog w os).map fun s => (HandSHeadRun.looksF R.prog (PySem.W.boot_heap w.params) s.abs, HandSHeadRun.seenQ (PySem.W.view R.prog [73]) names (importedModules R.prog.main.body) (fun s => PySem.W.xlAt (PySem.W.view R.prog [73]) [] s && PySem.W.recOk R.toRowW.records s) s.abs)) = some (true, PySem.W.openGood (PySem.W.view R.prog [73]) names)
def pE (w : World) : Prop := ∀ os : OsState, ((HandSHeadRun.endF (HandSHeadRun.stepQ (HandSHeadRun.denQ HandSHeadRun.tabQ) R.prog w) 20000 R.prog w os).map fun s => ((ex (kq s) && ((fa.all fun f => f.ok (kq s)) && fnl.all fun d => d.ok (kq s)), fnl.map fun d => He.fnW (kq s) d.at_), tbl.map fun t => He.dicW (kq s) (He.ga (kq s) t.1))) = some ((true, fnl.map He.DefD.val), tbl.map fun t => some (He.keysIn w.params t.2))
theorem runD0 (w : World) : pD (w.withFollow "special-get-raises" false) := by
  intro os
  kernel_rfl
theorem runD1 (w : World) : pD (w.withFollow "special-get-raises" true) := by
  intro os
  kernel_rfl
theorem runE0 (w : World) : pE (w.withFollow "special-get-raises" false) := by
  intro os
  kernel_rfl
theorem runE1 (w : World) : pE (w.withFollow "special-get-raises" true) := by
  intro os
  kernel_rfl
theorem run (w : World) : HandSHeadRun.RunEq R (PySem.W.view R.prog [73]) hk ob 20000 names w := runEq_ofM (fun _ => rfl) (fun _ => rfl) (PySem.W.byRow2 "special-get-raises" (P := pD) runD0 runD1 w) (PySem.W.byRow2 "special-get-raises" (P := pE) runE0 runE1 w)
theorem txt [TabList] {K : PySem.W.Frag} {h : Heap} {mg : Str → Option Value} (X : K.In h) (G : h.Ns mainGlobals mg) (c : He.SaysD fa fnl K) (e : ex K = true) {w : World} (tt : (tbl.map fun t => He.dicW K (He.ga K t.1)) = tbl.map fun t => some (He.keysIn w.params t.2)) : Txt w K mg := by
  obtain ⟨e0, e⟩ := He.ba e
  obtain ⟨e1, e⟩ := He.ba e
  obtain ⟨e2, e⟩ := He.ba e
  obtain ⟨e3, e⟩ := He.ba e
  obtain ⟨e4, e⟩ := He.ba e
  obtain ⟨e5, e⟩ := He.ba e
  obtain ⟨e6, e⟩ := He.ba e
  obtain ⟨e7, e⟩ := He.ba e
  obtain ⟨e8, e⟩ := He.ba e
  obtain ⟨e0, ei⟩ := He.ba e0
  refine ⟨kfW_ok e0, kxW_ok e0, kiW_ok ei, ?_, ?_, ?_, ?_, ?_, ?_, ?_, ?_, ?_, ?_, ?_, ?_, ?_, ?_, ?_, ?_, ?_, ?_, ?_, ?_, ?_, ?_, ?_, ?_, ?_, ?_, ?_, ?_, ?_, ?_, ?_, ?_, ?_, ?_, ?_, ?_, ?_, ?_, ?_, ?_, ?_, ?_, ?_, ?_, ?_, ?_, ?_, ?_, ?_, ?_, ?_, ?_, ?_, ?_, ?_, ?_, ?_, ?_, ?_, ?_, ?_, ?_, ?_, ?_, ?_, ?_, ?_, ?_, ?_, ?_, ?_, ?_, ?_, ?_, ?_, ?_, ?_, ?_, ?_, ?_, ?_, ?_, ?_, ?_, ?_, ?_, ?_, ?_, ?_, ?_, ?_, ?_, ?_, ?_, ?_, ?_, ?_, ?_, ?_, ?_, ?_, ?_, ?_, ?_, ?_, ?_, ?_, ?_, ?_, ?_, ?_, ?_, ?_, ?_, ?_, ?_, ?_, ?_, ?_, ?_, ?_, ?_, ?_, ?_, ?_, ?_, ?_, ?_, ?_, ?_, ?_, ?_, ?_, ?_, ?_, ?_, ?_, ?_, ?_, ?_, ?_, ?_, ?_, ?_, ?_, ?_, ?_, ?_, ?_, ?_, ?_⟩
  · exact He.free_ok X G (c.fact 0 (f := .free "ValueError") rfl)
  · exact He.free_ok X G (c.fact 1 (f := .free "all") rfl)
  · exact He.free_ok X G (c.fact 2 (f := .free "bool") rfl)
  · exact He.free_ok X G (c.fact 3 (f := .free "enumerate") rfl)
  · exact He.free_ok X G (c.fact 4 (f := .free "int") rfl)
  · exact He.free_ok X G (c.fact 5 (f := .free "isinstance") rfl)
  · exact He.free_ok X G (c.fact 6 (f := .free "len") rfl)
  · exact He.free_ok X G (c.fact 7 (f := .free "list") rfl)
  · exact He.free_ok X G (c.fact 8 (f := .free "max") rfl)
  · exact He.free_ok X G (c.fact 9 (f := .free "min") rfl)
  · exact He.free_ok X G (c.fact 10 (f := .free "range") rfl)
  · exact He.free_ok X G (c.fact 11 (f := .free "str") rfl)
  · exact He.free_ok X G (c.fact 12 (f := .free "sum") rfl)
  · exact He.free_ok X G (c.fact 13 (f := .free "tuple") rfl)
  · exact He.glo_ok X G (c.fact 14 (f := .glo "BadCount") rfl)
  · exact c.fact 15 (f := .exc "BadCount") rfl
  · exact He.glo_ok X G (c.fact 16 (f := .glo "BadMaker") rfl)
  · exact c.fact 17 (f := .exc "BadMaker") rfl
  · exact He.glo_ok X G (c.fact 18 (f := .glo "BadRumour") rfl)
  · exact He.glo_ok X G (c.fact 19 (f := .glo "BadShares") rfl)
  · exact He.glo_ok X G (c.fact 20 (f := .glo "BadWare") rfl)
  · exact c.fact 21 (f := .exc "BadWare") rfl
  · exact He.str_ok X G (c.fact 22 (f := .str "FIGURES" "0123456789") rfl)
  · exact He.int_ok X G (c.fact 23 (f := .int "MOST" 1000000000000) rfl)
  · exact He.int_ok X G (c.fact 24 (f := .int "MOST_BOTTOM" 10000) rfl)
  · exact He.int_ok X G (c.fact 25 (f := .int "MOST_FIGURES" 13) rfl)
  · exact He.int_ok X G (c.fact 26 (f := .int "MOST_GRAINS" 1000000000000) rfl)
  · exact He.int_ok X G (c.fact 27 (f := .int "MOST_HANDS" 6) rfl)
  · exact He.int_ok X G (c.fact 28 (f := .int "MOST_MAKERS" 6) rfl)
  · exact He.int_ok X G (c.fact 29 (f := .int "MOST_RATE" 1000000) rfl)
  · exact He.int_ok X G (c.fact 30 (f := .int "MOST_SIGNS" 8) rfl)
  · exact He.glo_ok X G (c.fact 31 (f := .glo "Market") rfl)
  · exact He.glo_ok X G (c.fact 32 (f := .glo "MartError") rfl)
  · exact He.glo_ok X G (c.fact 33 (f := .glo "NoLine") rfl)
  · exact He.glo_ok X G (c.fact 34 (f := .glo "NoName") rfl)
  · exact c.fact 35 (f := .exc "NoName") rfl
  · exact He.glo_ok X G (c.fact 36 (f := .glo "NoParting") rfl)
  · exact He.glo_ok X G (c.fact 37 (f := .glo "NoText") rfl)
  · exact He.glo_ok X G (c.fact 38 (f := .glo "Product") rfl)
  · exact He.glo_ok X G (c.fact 39 (f := .glo "SIZES") rfl)
  · exact He.str_ok X G (c.fact 40 (f := .str "SMALL" "abcdefghijklmnopqrstuvwxyz") rfl)
  · exact He.glo_ok X G (c.fact 41 (f := .glo "Stretch") rfl)
  · exact He.glo_ok X G (c.fact 42 (f := .glo "Sum") rfl)
  · exact He.glo_ok X G (c.fact 43 (f := .glo "TooLittle") rfl)
  · exact He.glo_ok X G (c.fact 44 (f := .glo "TooMuch") rfl)
  · exact c.fact 45 (f := .exc "TooMuch") rfl
  · exact tupW_ok e1
  · exact He.glo_ok X G (c.fact 46 (f := .glo "WARES") rfl)
  · exact He.glo_ok X G (c.fact 47 (f := .glo "_law_amount") rfl)
  · exact He.glo_ok X G (c.fact 48 (f := .glo "_law_called_twice") rfl)
  · exact He.glo_ok X G (c.fact 49 (f := .glo "_law_due") rfl)
  · exact He.glo_ok X G (c.fact 50 (f := .glo "_law_full") rfl)
  · exact He.glo_ok X G (c.fact 51 (f := .glo "_law_maker_row") rfl)
  · exact He.glo_ok X G (c.fact 52 (f := .glo "_law_market") rfl)
  · exact He.glo_ok X G (c.fact 53 (f := .glo "_law_mixed") rfl)
  · exact He.glo_ok X G (c.fact 54 (f := .glo "_law_names") rfl)
  · exact He.glo_ok X G (c.fact 55 (f := .glo "_law_next") rfl)
  · exact He.glo_ok X G (c.fact 56 (f := .glo "_law_plain") rfl)
  · exact He.glo_ok X G (c.fact 57 (f := .glo "_law_rows") rfl)
  · exact He.glo_ok X G (c.fact 58 (f := .glo "_law_said") rfl)
  · exact He.glo_ok X G (c.fact 59 (f := .glo "_law_state") rfl)
  · exact He.glo_ok X G (c.fact 60 (f := .glo "_law_word") rfl)
  · exact He.glo_ok X G (c.fact 61 (f := .glo "_law_wrong") rfl)
  · exact He.glo_ok X G (c.fact 62 (f := .glo "_law_wrong_row") rfl)
  · exact He.glo_ok X G (c.fact 63 (f := .glo "due_in") rfl)
  · exact He.glo_ok X G (c.fact 64 (f := .glo "hand_row") rfl)
  · exact He.glo_ok X G (c.fact 65 (f := .glo "is_among") rfl)
  · exact He.glo_ok X G (c.fact 66 (f := .glo "is_due") rfl)
  · exact He.glo_ok X G (c.fact 67 (f := .glo "is_name") rfl)
  · exact He.glo_ok X G (c.fact 68 (f := .glo "is_pair") rfl)
  · exact He.glo_ok X G (c.fact 69 (f := .glo "is_plain") rfl)
  · exact He.glo_ok X G (c.fact 70 (f := .glo "is_put") rfl)
  · exact He.glo_ok X G (c.fact 71 (f := .glo "is_whole") rfl)
  · exact He.glo_ok X G (c.fact 72 (f := .glo "law") rfl)
  · exact He.glo_ok X G (c.fact 73 (f := .glo "made_or_none") rfl)
  · exact He.glo_ok X G (c.fact 74 (f := .glo "maker_of") rfl)
  · exact He.glo_ok X G (c.fact 75 (f := .glo "maker_row") rfl)
  · exact He.glo_ok X G (c.fact 76 (f := .glo "need_count") rfl)
  · exact He.glo_ok X G (c.fact 77 (f := .glo "need_ware") rfl)
  · exact He.glo_ok X G (c.fact 78 (f := .glo "number_in") rfl)
  · exact He.glo_ok X G (c.fact 79 (f := .glo "plain_in") rfl)
  · exact He.glo_ok X G (c.fact 80 (f := .glo "product_coming") rfl)
  · exact He.glo_ok X G (c.fact 81 (f := .glo "product_wanted") rfl)
  · exact He.glo_ok X G (c.fact 82 (f := .glo "put_hand") rfl)
  · exact He.glo_ok X G (c.fact 83 (f := .glo "put_maker") rfl)
  · exact He.glo_ok X G (c.fact 84 (f := .glo "read") rfl)
  · exact He.glo_ok X G (c.fact 85 (f := .glo "rounded_up") rfl)
  · exact tabN_of (tab_at tt 0 rfl) e2
  · exact xfW_ok e3
  · exact oexW_ok e4
  · exact c.def_ 0 (d := ⟨("NoText", some "__init__"), "__init__", "NoText.__init__", defArgs s_NoText_init, defBody s_NoText_init, defScope s_NoText_init, [], []⟩) rfl
  · exact c.def_ 1 (d := ⟨("_law_mixed", none), "_law_mixed", "_law_mixed", defArgs s__law_mixed, defBody s__law_mixed, defScope s__law_mixed, [], []⟩) rfl
  · exact c.def_ 2 (d := ⟨("_law_next", none), "_law_next", "_law_next", defArgs s__law_next, defBody s__law_next, defScope s__law_next, [], []⟩) rfl
  · exact c.def_ 3 (d := ⟨("hand_row", none), "hand_row", "hand_row", defArgs s_hand_row, defBody s_hand_row, defScope s_hand_row, [], []⟩) rfl
  · exact c.def_ 4 (d := ⟨("maker_row", none), "maker_row", "maker_row", defArgs s_maker_row, defBody s_maker_row, defScope s_maker_row, [], []⟩) rfl
  · exact c.def_ 5 (d := ⟨("_law_word", none), "_law_word", "_law_word", defArgs s__law_word, defBody s__law_word, defScope s__law_word, [], []⟩) rfl
  · exact c.def_ 6 (d := ⟨("is_name", none), "is_name", "is_name", defArgs s_is_name, defBody s_is_name, defScope s_is_name, [], []⟩) rfl
  · exact c.def_ 7 (d := ⟨("number_in", none), "number_in", "number_in", defArgs s_number_in, defBody s_number_in, defScope s_number_in, [], []⟩) rfl
  · exact c.def_ 8 (d := ⟨("put_hand", none), "put_hand", "put_hand", defArgs s_put_hand, defBody s_put_hand, defScope s_put_hand, [], []⟩) rfl
  · exact c.def_ 9 (d := ⟨("is_whole", none), "is_whole", "is_whole", defArgs s_is_whole, defBody s_is_whole, defScope s_is_whole, [], []⟩) rfl
  · exact c.def_ 10 (d := ⟨("is_among", none), "is_among", "is_among", defArgs s_is_among, defBody s_is_among, defScope s_is_among, [], []⟩) rfl
  · exact c.def_ 11 (d := ⟨("is_pair", none), "is_pair", "is_pair", defArgs s_is_pair, defBody s_is_pair, defScope s_is_pair, [], []⟩) rfl
  · exact c.def_ 12 (d := ⟨("is_due", none), "is_due", "is_due", defArgs s_is_due, defBody s_is_due, defScope s_is_due, [], []⟩) rfl
  · exact c.def_ 13 (d := ⟨("is_plain", none), "is_plain", "is_plain", defArgs s_is_plain, defBody s_is_plain, defScope s_is_plain, [], []⟩) rfl
  · exact c.def_ 14 (d := ⟨("maker_of", none), "maker_of", "maker_of", defArgs s_maker_of, defBody s_maker_of, defScope s_maker_of, [], []⟩) rfl
  · exact c.def_ 15 (d := ⟨("made_or_none", none), "made_or_none", "made_or_none", defArgs s_made_or_none, defBody s_made_or_none, defScope s_made_or_none, [], []⟩) rfl
  · exact c.def_ 16 (d := ⟨("due_in", none), "due_in", "due_in", defArgs s_due_in, defBody s_due_in, defScope s_due_in, [], []⟩) rfl
  · exact c.def_ 17 (d := ⟨("plain_in", none), "plain_in", "plain_in", defArgs s_plain_in, defBody s_plain_in, defScope s_plain_in, [], []⟩) rfl
  · exact c.def_ 18 (d := ⟨("put_maker", none), "put_maker", "put_maker", defArgs s_put_maker, defBody s_put_maker, defScope s_put_maker, [], []⟩) rfl
  · exact c.def_ 19 (d := ⟨("is_put", none), "is_put", "is_put", defArgs s_is_put, defBody s_is_put, defScope s_is_put, [], []⟩) rfl
  · exact c.def_ 20 (d := ⟨("read", none), "read", "read", defArgs s_read, defBody s_read, defScope s_read, [], []⟩) rfl
  · exact c.def_ 21 (d := ⟨("_law_said", none), "_law_said", "_law_said", defArgs s__law_said, defBody s__law_said, defScope s__law_said, [], []⟩) rfl
  · exact c.def_ 22 (d := ⟨("_law_called_twice", none), "_law_called_twice", "_law_called_twice", defArgs s__law_called_twice, defBody s__law_called_twice, defScope s__law_called_twice, [], []⟩) rfl
  · exact c.def_ 23 (d := ⟨("_law_full", none), "_law_full", "_law_full", defArgs s__law_full, defBody s__law_full, defScope s__law_full, [], []⟩) rfl
  · exact c.def_ 24 (d := ⟨("_law_amount", none), "_law_amount", "_law_amount", defArgs s__law_amount, defBody s__law_amount, defScope s__law_amount, [], []⟩) rfl
  · exact c.def_ 25 (d := ⟨("_law_names", none), "_law_names", "_law_names", defArgs s__law_names, defBody s__law_names, defScope s__law_names, [], []⟩) rfl
  · exact c.def_ 26 (d := ⟨("_law_due", none), "_law_due", "_law_due", defArgs s__law_due, defBody s__law_due, defScope s__law_due, [], []⟩) rfl
  · exact c.def_ 27 (d := ⟨("_law_plain", none), "_law_plain", "_law_plain", defArgs s__law_plain, defBody s__law_plain, defScope s__law_plain, [], []⟩) rfl
  · exact c.def_ 28 (d := ⟨("_law_market", none), "_law_market", "_law_market", defArgs s__law_market, defBody s__law_market, defScope s__law_market, [], []⟩) rfl
  · exact c.def_ 29 (d := ⟨("_law_maker_row", none), "_law_maker_row", "_law_maker_row", defArgs s__law_maker_row, defBody s__law_maker_row, defScope s__law_maker_row, [], []⟩) rfl
  · exact c.def_ 30 (d := ⟨("_law_rows", none), "_law_rows", "_law_rows", defArgs s__law_rows, defBody s__law_rows, defScope s__law_rows, [], []⟩) rfl
  · exact c.def_ 31 (d := ⟨("_law_state", none), "_law_state", "_law_state", defArgs s__law_state, defBody s__law_state, defScope s__law_state, [], []⟩) rfl
  · exact c.def_ 32 (d := ⟨("_law_wrong_row", none), "_law_wrong_row", "_law_wrong_row", defArgs s__law_wrong_row, defBody s__law_wrong_row, defScope s__law_wrong_row, [], []⟩) rfl
  · exact c.def_ 33 (d := ⟨("_law_wrong", none), "_law_wrong", "_law_wrong", defArgs s__law_wrong, defBody s__law_wrong, defScope s__law_wrong, [], []⟩) rfl
  · exact c.def_ 34 (d := ⟨("law", none), "law", "law", defArgs s_law, defBody s_law, defScope s_law, [], []⟩) rfl
  · exact clsW_ok e5
  · exact He.mkr_ok (c.fact 86 (f := .mkr "Market") rfl)
  · exact c.def_ 35 (d := ⟨("Market", some "__init__"), "__init__", "Market.__init__", defArgs s_Market___init__, defBody s_Market___init__, defScope s_Market___init__, [], []⟩) rfl
  · exact clsW_ok e6
  · exact He.mkr_ok (c.fact 87 (f := .mkr "Product") rfl)
  · exact c.def_ 36 (d := ⟨("Product", some "__init__"), "__init__", "Maker.__init__", defArgs s_Maker___init__, defBody s_Maker___init__, defScope s_Maker___init__, [], []⟩) rfl
  · exact clsW_ok e7
  · exact He.mkr_ok (c.fact 88 (f := .mkr "Stretch") rfl)
  · exact c.def_ 37 (d := ⟨("Stretch", some "__init__"), "__init__", "Maker.__init__", defArgs s_Maker___init__, defBody s_Maker___init__, defScope s_Maker___init__, [], []⟩) rfl
  · exact clsW_ok e8
  · exact He.mkr_ok (c.fact 89 (f := .mkr "Sum") rfl)
  · exact c.def_ 38 (d := ⟨("Sum", some "__init__"), "__init__", "Maker.__init__", defArgs s_Maker___init__, defBody s_Maker___init__, defScope s_Maker___init__, [], []⟩) rfl
  · exact He.meth_ok (c.fact 90 (f := .meth "Product" "called") rfl)
  · exact c.def_ 39 (d := ⟨("Product", some "called"), "called", "Maker.called", defArgs s_Maker_called, defBody s_Maker_called, defScope s_Maker_called, [], []⟩) rfl
  · exact He.meth_ok (c.fact 91 (f := .meth "Stretch" "called") rfl)
  · exact c.def_ 40 (d := ⟨("Stretch", some "called"), "called", "Stretch.called", defArgs s_Stretch_called, defBody s_Stretch_called, defScope s_Stretch_called, [], []⟩) rfl
  · exact He.meth_ok (c.fact 92 (f := .meth "Sum" "called") rfl)
  · exact c.def_ 41 (d := ⟨("Sum", some "called"), "called", "Sum.called", defArgs s_Sum_called, defBody s_Sum_called, defScope s_Sum_called, [], []⟩) rfl
  · exact He.meth_ok (c.fact 93 (f := .meth "Product" "plain") rfl)
  · exact c.def_ 42 (d := ⟨("Product", some "plain"), "plain", "Maker.plain", defArgs s_Maker_plain, defBody s_Maker_plain, defScope s_Maker_plain, [], []⟩) rfl
  · exact He.meth_ok (c.fact 94 (f := .meth "Stretch" "plain") rfl)
  · exact c.def_ 43 (d := ⟨("Stretch", some "plain"), "plain", "Maker.plain", defArgs s_Maker_plain, defBody s_Maker_plain, defScope s_Maker_plain, [], []⟩) rfl
  · exact He.meth_ok (c.fact 95 (f := .meth "Sum" "plain") rfl)
  · exact c.def_ 44 (d := ⟨("Sum", some "plain"), "plain", "Maker.plain", defArgs s_Maker_plain, defBody s_Maker_plain, defScope s_Maker_plain, [], []⟩) rfl
  · exact He.meth_ok (c.fact 96 (f := .meth "Market" "text") rfl)
  · exact c.def_ 45 (d := ⟨("Market", some "text"), "text", "Market.text", defArgs s_Market_text, defBody s_Market_text, defScope s_Market_text, [], []⟩) rfl
theorem walk (plain : ∀ ns : List Int, ns.length ≤ 63 → sp_law [.rol (ns.map D.int)] (fun _ => none) (fun d _ => d = .bl true) (fun _ _ _ => False)) : PySem.Challenge.rw_rumourmart_k12_texts_refused.Holds := by
  w_on; o_law
  refine HandSHeadRun.head_any (r := PySem.W.OpenLaw.row PySem.Challenge.rw_rumourmart_k12_texts_refused) (q := PySem.W.view (PySem.W.OpenLaw.row PySem.Challenge.rw_rumourmart_k12_texts_refused).prog [73]) (H := hk) (ob := ob) (M := 20000) (loose := names) (d := HandSHeadRun.topDef (PySem.W.OpenLaw.row PySem.Challenge.rw_rumourmart_k12_texts_refused).prog 73) (kwd := []) ob_eq
    (by kernel_rfl) (fun s => by kernel_rfl) run (by kernel_rfl) (by kernel_rfl) (by kernel_rfl) (by rfl) (by first | assumption | decide +kernel) (by decide +kernel) ⟨rfl, rfl, rfl, rfl, rfl, by decide +kernel⟩ ?hw ?hc
  case hw => w_witness2
  case hc =>
    refine walk_ofN (l := PySem.Challenge.rw_rumourmart_k12_texts_refused) (k := 13) (x := "_law_script") (sp := sp_law) rfl (by kernel_rfl) ⟨rfl, by decide, by decide⟩ plain ?F
    intro w mg fa' h Y G hmg0
    obtain ⟨K, KX, c, e, tt⟩ := Y
    have hmg : mg ("law" : PySem.Str) = some (.ref fa') := by
      have e : (HandSHeadRun.topDef (PySem.W.OpenLaw.row PySem.Challenge.rw_rumourmart_k12_texts_refused).prog 73).name = ("law" : PySem.Str) := by kernel_rfl
      rw [← e]
      exact hmg0
    letI : TabList := ⟨[]⟩
    have T : Txt w K mg := txt KX G c e tt
    have ea := hmg.symm.trans T.g_law
    cases ea
    obtain ⟨fd, F⟩ := T.d_law
    refine ⟨K, fd, KX, fun s v => (FunD.bindsA (ps := ["_law_script"]) F fun _ _ _ _ _ _ us hl => match us, hl with | [_], _ => rfl) s [v] rfl, fun base _ _ => ok_law F T⟩
end K12

theorem PySem.Challenge.cw_rumourmart_k12_texts_refused_holds : PySem.Challenge.rw_rumourmart_k12_texts_refused.Holds :=
  K12.walk K12.law_ok
